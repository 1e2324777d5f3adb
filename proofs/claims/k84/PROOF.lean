import PyProof.Rows.All
import Wide.All
import OpenK.AllK
import Wide.FinOn
import HandS.ForMost
import HandS.Replace
import HandS.Wide
import PyProof.ReprReads
import HandS.Small
import HandS.Conv
import HandS.ExcCtx
import HandS.HotCalls
import HandS.Ends
import HandS.Comp
import HandS.CallSlots
import PyProof.Rows.Digits
import HandS.ExcIs
import HandS.ExcField
import PyProof.ReprRoads
import PyProof.Rows.StrOr
import HandS.FStr
import KE.KIntText
import HandS.Gcd
import HandS.IsInst
import HandS.Iter
import HandS.ReplaceLit
import HandS.ExcInitHot
import HandS.Words
import HandS.ForSpec
import KE.IntTextLaws
import PyProof.Rows.ReprOcc
import PyProof.FitsReplace
import PyProof.Rows.StrJoinRep
import PyProof.ReprLen
import PySem.Challenge.RW_cutmakers_k84_ratio_words
set_option Elab.async false
set_option linter.all false
set_option maxRecDepth 100000
set_option maxHeartbeats 4000000
/-! PI, part a: data as trees, how they lie in the abstract heap. -/
namespace PI
open PySem L2
/-- who may change a list: own: one place alone knows it; frz: nobody changes it any more; wr: it stands from the beginning -/
inductive Ow where
  | own | frz | wr
  deriving DecidableEq
/-- data as a tree -/
inductive D where
  | non | bl (b : Bool) | int (i : Int) | str (z : Str)
  | tup (l : List D)
  | lst (o : Ow) (l : List D)
  | dct (o : Ow) (kvs : List (Key × D))
  | ins (o : Ow) (c : Nat) (fs : List (Str × D))
namespace D
mutual
def frozen : D → Bool
  | non | bl _ | int _ | str _ => true
  | tup l => frozenL l
  | lst o l => decide (o ≠ .own) && frozenL l
  | dct o l => decide (o ≠ .own) && frozenK l
  | ins o _ l => decide (o ≠ .own) && frozenF l
def frozenL : List D → Bool
  | [] => true
  | d :: l => frozen d && frozenL l
def frozenK : List (Key × D) → Bool
  | [] => true
  | (_, d) :: l => frozen d && frozenK l
def frozenF : List (Str × D) → Bool
  | [] => true
  | (_, d) :: l => frozen d && frozenF l
end
def fz : Ow → Ow
  | .own => .frz
  | o => o
mutual
def freeze : D → D
  | non => non
  | bl b => bl b
  | int i => int i
  | str z => str z
  | tup l => tup (freezeL l)
  | lst o l => lst (fz o) (freezeL l)
  | dct o l => dct (fz o) (freezeK l)
  | ins o c l => ins (fz o) c (freezeF l)
def freezeL : List D → List D
  | [] => []
  | d :: l => freeze d :: freezeL l
def freezeK : List (Key × D) → List (Key × D)
  | [] => []
  | (k, d) :: l => (k, freeze d) :: freezeK l
def freezeF : List (Str × D) → List (Str × D)
  | [] => []
  | (k, d) :: l => (k, freeze d) :: freezeF l
end
end D
abbrev Set' := Addr → Prop
def Dj (S T : Set') : Prop := ∀ a, S a → T a → False
def Sub (S T : Set') : Prop := ∀ a, S a → T a
def no : Set' := fun _ => False
def un (S T : Set') : Set' := fun a => S a ∨ T a
def at1 (a : Addr) : Set' := fun b => b = a
section
variable (K : PySem.W.Frag) (cm : Nat → Addr) (F H : Hp)
mutual
/-- v is the datum d: what is frozen stands in F, what is owned stands in H within S -/
def Rep : D → V → Set' → Prop
  | .non, v, _ => v = .non
  | .bl b, v, _ => v = .bl b
  | .int i, v, _ => v = .int i
  | .str z, v, _ => v = .str z
  | .tup l, v, S => ∃ a xs, v = .ref a ∧ SqT K F a xs ∧ RepL l xs S
  | .lst .own l, v, S => ∃ a xs T, v = .ref a ∧ H a = some (.lst xs) ∧ S a ∧ Sub T S ∧ ¬ T a ∧ RepL l xs T
  | .lst .frz l, v, S => ∃ a xs, v = .ref a ∧ F a = some (.lst xs) ∧ RepL l xs S
  | .lst .wr l, v, S => ∃ a xs, v = .ref a ∧ SqL K F a xs ∧ RepL l xs S
  | .dct .own l, v, S => ∃ a xs T, v = .ref a ∧ H a = some (.dK xs) ∧ S a ∧ Sub T S ∧ ¬ T a ∧ RepK l xs T
  | .dct _ l, v, S => ∃ a xs, v = .ref a ∧ F a = some (.dK xs) ∧ RepK l xs S
  | .ins .own c l, v, S => ∃ a dx xs T, v = .ref a ∧ H a = some (.ins (cm c) dx xs) ∧ S a ∧ Sub T S ∧ ¬ T a ∧ RepF l xs T
  | .ins _ c l, v, S => ∃ a dx xs, v = .ref a ∧ F a = some (.ins (cm c) dx xs) ∧ RepF l xs S
def RepL : List D → List V → Set' → Prop
  | [], xs, _ => xs = []
  | d :: l, xs, S => ∃ x r S1 S2, xs = x :: r ∧ Sub S1 S ∧ Sub S2 S ∧ Dj S1 S2 ∧ Rep d x S1 ∧ RepL l r S2
def RepK : List (Key × D) → List (Key × V) → Set' → Prop
  | [], xs, _ => xs = []
  | (k, d) :: l, xs, S => ∃ x r S1 S2, xs = (k, x) :: r ∧ Sub S1 S ∧ Sub S2 S ∧ Dj S1 S2 ∧ Rep d x S1 ∧ RepK l r S2
def RepF : List (Str × D) → List (Str × V) → Set' → Prop
  | [], xs, _ => xs = []
  | (k, d) :: l, xs, S => ∃ x r S1 S2, xs = (k, x) :: r ∧ Sub S1 S ∧ Sub S2 S ∧ Dj S1 S2 ∧ Rep d x S1 ∧ RepF l r S2
end
end
theorem Sub.refl (S : Set') : Sub S S := fun _ h => h
theorem Sub.trans {S T U : Set'} (h : Sub S T) (g : Sub T U) : Sub S U := fun a x => g a (h a x)
theorem no_sub (S : Set') : Sub no S := fun _ h => h.elim
theorem no_dj (S : Set') : Dj no S := fun _ h _ => h
theorem dj_no (S : Set') : Dj S no := fun _ _ h => h
theorem Dj.symm {S T : Set'} (h : Dj S T) : Dj T S := fun a x y => h a y x
theorem Dj.mono {S T S' T' : Set'} (h : Dj S T) (hs : Sub S' S) (ht : Sub T' T) : Dj S' T' := fun a x y => h a (hs a x) (ht a y)
theorem sub_l (S T : Set') : Sub S (un S T) := fun _ h => .inl h
theorem sub_r (S T : Set') : Sub T (un S T) := fun _ h => .inr h
theorem un_sub {S T U : Set'} (h : Sub S U) (g : Sub T U) : Sub (un S T) U := fun a x => x.elim (h a) (g a)
/-- F's facts stand in F' -/
def Ex (F F' : Hp) : Prop := ∀ a o, F a = some o → F' a = some o
theorem Ex.refl (F : Hp) : Ex F F := fun _ _ h => h
theorem Ex.trans {F G H : Hp} (a : Ex F G) (b : Ex G H) : Ex F H := fun x o h => b x o (a x o h)
theorem ex_rd {H H' : Hp} {a : Addr} {u : HO} (e : Ex H H') (h : Rd H a u) : Rd H' a u := by
  rcases h with h | ⟨o, h⟩
  · exact Or.inl (e a _ h)
  · exact Or.inr ⟨o, e a _ h⟩
theorem ex_l {K : PySem.W.Frag} {H H' : Hp} {a : Addr} {xs : List V} (e : Ex H H') (h : SqL K H a xs) : SqL K H' a xs := by
  rcases h with h | h
  · exact Or.inl (ex_rd e h)
  · exact Or.inr h
theorem ex_t {K : PySem.W.Frag} {H H' : Hp} {a : Addr} {xs : List V} (e : Ex H H') (h : SqT K H a xs) : SqT K H' a xs := by
  rcases h with h | h
  · exact Or.inl (ex_rd e h)
  · exact Or.inr h
section
variable {K : PySem.W.Frag} {cm : Nat → Addr} {F F' H H' : Hp}
mutual
theorem Rep.mono (e : Ex F F') : ∀ (d : D) {v : V} {S T : Set'}, Sub S T → (∀ a, S a → H' a = H a) → Rep K cm F H d v S → Rep K cm F' H' d v T
  | .non, _, _, _, _, _, h => by simpa only [Rep] using h
  | .bl _, _, _, _, _, _, h => by simpa only [Rep] using h
  | .int _, _, _, _, _, _, h => by simpa only [Rep] using h
  | .str _, _, _, _, _, _, h => by simpa only [Rep] using h
  | .tup l, _, _, _, s, k, h => by
    simp only [Rep] at h ⊢
    obtain ⟨a, xs, r, q, p⟩ := h
    exact ⟨a, xs, r, ex_t e q, RepL.mono e l s k p⟩
  | .lst .own l, _, _, _, s, k, h => by
    simp only [Rep] at h ⊢
    obtain ⟨a, xs, T, r, q, sa, ts, n, p⟩ := h
    exact ⟨a, xs, T, r, (k a sa).trans q, s a sa, ts.trans s, n, RepL.mono e l (Sub.refl _) (fun b hb => k b (ts b hb)) p⟩
  | .lst .frz l, _, _, _, s, k, h => by
    simp only [Rep] at h ⊢
    obtain ⟨a, xs, r, q, p⟩ := h
    exact ⟨a, xs, r, e _ _ q, RepL.mono e l s k p⟩
  | .lst .wr l, _, _, _, s, k, h => by
    simp only [Rep] at h ⊢
    obtain ⟨a, xs, r, q, p⟩ := h
    exact ⟨a, xs, r, ex_l e q, RepL.mono e l s k p⟩
  | .dct .own l, _, _, _, s, k, h => by
    simp only [Rep] at h ⊢
    obtain ⟨a, xs, T, r, q, sa, ts, n, p⟩ := h
    exact ⟨a, xs, T, r, (k a sa).trans q, s a sa, ts.trans s, n, RepK.mono e l (Sub.refl _) (fun b hb => k b (ts b hb)) p⟩
  | .dct .frz l, _, _, _, s, k, h => by
    simp only [Rep] at h ⊢
    obtain ⟨a, xs, r, q, p⟩ := h
    exact ⟨a, xs, r, e _ _ q, RepK.mono e l s k p⟩
  | .dct .wr l, _, _, _, s, k, h => by
    simp only [Rep] at h ⊢
    obtain ⟨a, xs, r, q, p⟩ := h
    exact ⟨a, xs, r, e _ _ q, RepK.mono e l s k p⟩
  | .ins .own c l, _, _, _, s, k, h => by
    simp only [Rep] at h ⊢
    obtain ⟨a, dx, xs, T, r, q, sa, ts, n, p⟩ := h
    exact ⟨a, dx, xs, T, r, (k a sa).trans q, s a sa, ts.trans s, n, RepF.mono e l (Sub.refl _) (fun b hb => k b (ts b hb)) p⟩
  | .ins .frz c l, _, _, _, s, k, h => by
    simp only [Rep] at h ⊢
    obtain ⟨a, dx, xs, r, q, p⟩ := h
    exact ⟨a, dx, xs, r, e _ _ q, RepF.mono e l s k p⟩
  | .ins .wr c l, _, _, _, s, k, h => by
    simp only [Rep] at h ⊢
    obtain ⟨a, dx, xs, r, q, p⟩ := h
    exact ⟨a, dx, xs, r, e _ _ q, RepF.mono e l s k p⟩
theorem RepL.mono (e : Ex F F') : ∀ (l : List D) {xs : List V} {S T : Set'}, Sub S T → (∀ a, S a → H' a = H a) → RepL K cm F H l xs S → RepL K cm F' H' l xs T
  | [], _, _, _, _, _, h => by simpa only [RepL] using h
  | d :: l, _, _, _, s, k, h => by
    simp only [RepL] at h ⊢
    obtain ⟨x, r, S1, S2, q, s1, s2, j, p1, p2⟩ := h
    exact ⟨x, r, S1, S2, q, s1.trans s, s2.trans s, j, Rep.mono e d (Sub.refl _) (fun b hb => k b (s1 b hb)) p1, RepL.mono e l (Sub.refl _) (fun b hb => k b (s2 b hb)) p2⟩
theorem RepK.mono (e : Ex F F') : ∀ (l : List (Key × D)) {xs : List (Key × V)} {S T : Set'}, Sub S T → (∀ a, S a → H' a = H a) → RepK K cm F H l xs S → RepK K cm F' H' l xs T
  | [], _, _, _, _, _, h => by simpa only [RepK] using h
  | (_, d) :: l, _, _, _, s, k, h => by
    simp only [RepK] at h ⊢
    obtain ⟨x, r, S1, S2, q, s1, s2, j, p1, p2⟩ := h
    exact ⟨x, r, S1, S2, q, s1.trans s, s2.trans s, j, Rep.mono e d (Sub.refl _) (fun b hb => k b (s1 b hb)) p1, RepK.mono e l (Sub.refl _) (fun b hb => k b (s2 b hb)) p2⟩
theorem RepF.mono (e : Ex F F') : ∀ (l : List (Str × D)) {xs : List (Str × V)} {S T : Set'}, Sub S T → (∀ a, S a → H' a = H a) → RepF K cm F H l xs S → RepF K cm F' H' l xs T
  | [], _, _, _, _, _, h => by simpa only [RepF] using h
  | (_, d) :: l, _, _, _, s, k, h => by
    simp only [RepF] at h ⊢
    obtain ⟨x, r, S1, S2, q, s1, s2, j, p1, p2⟩ := h
    exact ⟨x, r, S1, S2, q, s1.trans s, s2.trans s, j, Rep.mono e d (Sub.refl _) (fun b hb => k b (s1 b hb)) p1, RepF.mono e l (Sub.refl _) (fun b hb => k b (s2 b hb)) p2⟩
end
mutual
theorem Rep.frozen : ∀ (d : D) {v : V} {S T : Set'}, d.frozen = true → Rep K cm F H d v S → Rep K cm F H' d v T
  | .non, _, _, _, _, h => by simpa only [Rep] using h
  | .bl _, _, _, _, _, h => by simpa only [Rep] using h
  | .int _, _, _, _, _, h => by simpa only [Rep] using h
  | .str _, _, _, _, _, h => by simpa only [Rep] using h
  | .tup l, _, _, _, z, h => by
    simp only [Rep] at h ⊢
    obtain ⟨a, xs, r, q, p⟩ := h
    exact ⟨a, xs, r, q, RepL.frozen l (by simpa only [D.frozen] using z) p⟩
  | .lst .own l, _, _, _, z, h => by simp [D.frozen] at z
  | .lst .frz l, _, _, _, z, h => by
    simp only [Rep] at h ⊢
    obtain ⟨a, xs, r, q, p⟩ := h
    exact ⟨a, xs, r, q, RepL.frozen l (by simpa [D.frozen] using z) p⟩
  | .lst .wr l, _, _, _, z, h => by
    simp only [Rep] at h ⊢
    obtain ⟨a, xs, r, q, p⟩ := h
    exact ⟨a, xs, r, q, RepL.frozen l (by simpa [D.frozen] using z) p⟩
  | .dct .own l, _, _, _, z, h => by simp [D.frozen] at z
  | .dct .frz l, _, _, _, z, h => by
    simp only [Rep] at h ⊢
    obtain ⟨a, xs, r, q, p⟩ := h
    exact ⟨a, xs, r, q, RepK.frozen l (by simpa [D.frozen] using z) p⟩
  | .dct .wr l, _, _, _, z, h => by
    simp only [Rep] at h ⊢
    obtain ⟨a, xs, r, q, p⟩ := h
    exact ⟨a, xs, r, q, RepK.frozen l (by simpa [D.frozen] using z) p⟩
  | .ins .own c l, _, _, _, z, h => by simp [D.frozen] at z
  | .ins .frz c l, _, _, _, z, h => by
    simp only [Rep] at h ⊢
    obtain ⟨a, dx, xs, r, q, p⟩ := h
    exact ⟨a, dx, xs, r, q, RepF.frozen l (by simpa [D.frozen] using z) p⟩
  | .ins .wr c l, _, _, _, z, h => by
    simp only [Rep] at h ⊢
    obtain ⟨a, dx, xs, r, q, p⟩ := h
    exact ⟨a, dx, xs, r, q, RepF.frozen l (by simpa [D.frozen] using z) p⟩
theorem RepL.frozen : ∀ (l : List D) {xs : List V} {S T : Set'}, D.frozenL l = true → RepL K cm F H l xs S → RepL K cm F H' l xs T
  | [], _, _, _, _, h => by simpa only [RepL] using h
  | d :: l, _, _, _, z, h => by
    simp only [D.frozenL, Bool.and_eq_true] at z
    simp only [RepL] at h ⊢
    obtain ⟨x, r, S1, S2, q, s1, s2, j, p1, p2⟩ := h
    exact ⟨x, r, no, no, q, no_sub _, no_sub _, no_dj _, Rep.frozen d z.1 p1, RepL.frozen l z.2 p2⟩
theorem RepK.frozen : ∀ (l : List (Key × D)) {xs : List (Key × V)} {S T : Set'}, D.frozenK l = true → RepK K cm F H l xs S → RepK K cm F H' l xs T
  | [], _, _, _, _, h => by simpa only [RepK] using h
  | (_, d) :: l, _, _, _, z, h => by
    simp only [D.frozenK, Bool.and_eq_true] at z
    simp only [RepK] at h ⊢
    obtain ⟨x, r, S1, S2, q, s1, s2, j, p1, p2⟩ := h
    exact ⟨x, r, no, no, q, no_sub _, no_sub _, no_dj _, Rep.frozen d z.1 p1, RepK.frozen l z.2 p2⟩
theorem RepF.frozen : ∀ (l : List (Str × D)) {xs : List (Str × V)} {S T : Set'}, D.frozenF l = true → RepF K cm F H l xs S → RepF K cm F H' l xs T
  | [], _, _, _, _, h => by simpa only [RepF] using h
  | (_, d) :: l, _, _, _, z, h => by
    simp only [D.frozenF, Bool.and_eq_true] at z
    simp only [RepF] at h ⊢
    obtain ⟨x, r, S1, S2, q, s1, s2, j, p1, p2⟩ := h
    exact ⟨x, r, no, no, q, no_sub _, no_sub _, no_dj _, Rep.frozen d z.1 p1, RepF.frozen l z.2 p2⟩
end
end
mutual
theorem D.frozen_freeze : ∀ d : D, d.freeze.frozen = true
  | .non | .bl _ | .int _ | .str _ => by simp [D.freeze, D.frozen]
  | .tup l => by simp only [D.freeze, D.frozen]; exact D.frozenL_freezeL l
  | .lst o l => by cases o <;> simp [D.freeze, D.frozen, D.fz, D.frozenL_freezeL l]
  | .dct o l => by cases o <;> simp [D.freeze, D.frozen, D.fz, D.frozenK_freezeK l]
  | .ins o c l => by cases o <;> simp [D.freeze, D.frozen, D.fz, D.frozenF_freezeF l]
theorem D.frozenL_freezeL : ∀ l : List D, D.frozenL (D.freezeL l) = true
  | [] => by simp [D.freezeL, D.frozenL]
  | d :: l => by simp [D.freezeL, D.frozenL, D.frozen_freeze d, D.frozenL_freezeL l]
theorem D.frozenK_freezeK : ∀ l : List (Key × D), D.frozenK (D.freezeK l) = true
  | [] => by simp [D.freezeK, D.frozenK]
  | (k, d) :: l => by simp [D.freezeK, D.frozenK, D.frozen_freeze d, D.frozenK_freezeK l]
theorem D.frozenF_freezeF : ∀ l : List (Str × D), D.frozenF (D.freezeF l) = true
  | [] => by simp [D.freezeF, D.frozenF]
  | (k, d) :: l => by simp [D.freezeF, D.frozenF, D.frozen_freeze d, D.frozenF_freezeF l]
end
open Classical in
/-- F with what H has within S -/
noncomputable def fzH (F H : Hp) (S : Set') : Hp := fun a => if S a then H a else F a
theorem fzH_in {F H : Hp} {S : Set'} {a : Addr} (h : S a) : fzH F H S a = H a := if_pos h
theorem fzH_out {F H : Hp} {S : Set'} {a : Addr} (h : ¬ S a) : fzH F H S a = F a := if_neg h
theorem fzH_ex {F H : Hp} {S : Set'} (h : ∀ a, S a → F a = none) : Ex F (fzH F H S) := fun a o e => by
  rw [fzH_out fun z => by rw [h a z] at e; cases e]
  exact e
theorem fzH_le {F H : Hp} {S : Set'} (h : Ex F H) : Ex (fzH F H S) H := fun a o e => by
  by_cases z : S a
  · rwa [fzH_in z] at e
  · rw [fzH_out z] at e
    exact h a o e
section
variable {K : PySem.W.Frag} {cm : Nat → Addr} {F G H H' : Hp}
mutual
theorem Rep.freeze (e : Ex F G) : ∀ (d : D) {v : V} {S T : Set'}, (∀ a o, S a → H a = some o → G a = some o) → Rep K cm F H d v S → Rep K cm G H' d.freeze v T
  | .non, _, _, _, _, h => by simpa only [Rep, D.freeze] using h
  | .bl _, _, _, _, _, h => by simpa only [Rep, D.freeze] using h
  | .int _, _, _, _, _, h => by simpa only [Rep, D.freeze] using h
  | .str _, _, _, _, _, h => by simpa only [Rep, D.freeze] using h
  | .tup l, _, _, _, k, h => by
    simp only [Rep, D.freeze] at h ⊢
    obtain ⟨a, xs, r, q, p⟩ := h
    exact ⟨a, xs, r, ex_t e q, RepL.freeze e l k p⟩
  | .lst .own l, _, _, _, k, h => by
    simp only [Rep, D.freeze, D.fz] at h ⊢
    obtain ⟨a, xs, T, r, q, sa, ts, n, p⟩ := h
    exact ⟨a, xs, r, k a _ sa q, RepL.freeze e l (fun b o hb => k b o (ts b hb)) p⟩
  | .lst .frz l, _, _, _, k, h => by
    simp only [Rep, D.freeze, D.fz] at h ⊢
    obtain ⟨a, xs, r, q, p⟩ := h
    exact ⟨a, xs, r, e _ _ q, RepL.freeze e l k p⟩
  | .lst .wr l, _, _, _, k, h => by
    simp only [Rep, D.freeze, D.fz] at h ⊢
    obtain ⟨a, xs, r, q, p⟩ := h
    exact ⟨a, xs, r, ex_l e q, RepL.freeze e l k p⟩
  | .dct .own l, _, _, _, k, h => by
    simp only [Rep, D.freeze, D.fz] at h ⊢
    obtain ⟨a, xs, T, r, q, sa, ts, n, p⟩ := h
    exact ⟨a, xs, r, k a _ sa q, RepK.freeze e l (fun b o hb => k b o (ts b hb)) p⟩
  | .dct .frz l, _, _, _, k, h => by
    simp only [Rep, D.freeze, D.fz] at h ⊢
    obtain ⟨a, xs, r, q, p⟩ := h
    exact ⟨a, xs, r, e _ _ q, RepK.freeze e l k p⟩
  | .dct .wr l, _, _, _, k, h => by
    simp only [Rep, D.freeze, D.fz] at h ⊢
    obtain ⟨a, xs, r, q, p⟩ := h
    exact ⟨a, xs, r, e _ _ q, RepK.freeze e l k p⟩
  | .ins .own c l, _, _, _, k, h => by
    simp only [Rep, D.freeze, D.fz] at h ⊢
    obtain ⟨a, dx, xs, T, r, q, sa, ts, n, p⟩ := h
    exact ⟨a, dx, xs, r, k a _ sa q, RepF.freeze e l (fun b o hb => k b o (ts b hb)) p⟩
  | .ins .frz c l, _, _, _, k, h => by
    simp only [Rep, D.freeze, D.fz] at h ⊢
    obtain ⟨a, dx, xs, r, q, p⟩ := h
    exact ⟨a, dx, xs, r, e _ _ q, RepF.freeze e l k p⟩
  | .ins .wr c l, _, _, _, k, h => by
    simp only [Rep, D.freeze, D.fz] at h ⊢
    obtain ⟨a, dx, xs, r, q, p⟩ := h
    exact ⟨a, dx, xs, r, e _ _ q, RepF.freeze e l k p⟩
theorem RepL.freeze (e : Ex F G) : ∀ (l : List D) {xs : List V} {S T : Set'}, (∀ a o, S a → H a = some o → G a = some o) → RepL K cm F H l xs S → RepL K cm G H' (D.freezeL l) xs T
  | [], _, _, _, _, h => by simpa only [RepL, D.freezeL] using h
  | d :: l, _, _, _, k, h => by
    simp only [RepL, D.freezeL] at h ⊢
    obtain ⟨x, r, S1, S2, q, s1, s2, j, p1, p2⟩ := h
    exact ⟨x, r, no, no, q, no_sub _, no_sub _, no_dj _, Rep.freeze e d (fun b o hb => k b o (s1 b hb)) p1, RepL.freeze e l (fun b o hb => k b o (s2 b hb)) p2⟩
theorem RepK.freeze (e : Ex F G) : ∀ (l : List (Key × D)) {xs : List (Key × V)} {S T : Set'}, (∀ a o, S a → H a = some o → G a = some o) → RepK K cm F H l xs S → RepK K cm G H' (D.freezeK l) xs T
  | [], _, _, _, _, h => by simpa only [RepK, D.freezeK] using h
  | (_, d) :: l, _, _, _, k, h => by
    simp only [RepK, D.freezeK] at h ⊢
    obtain ⟨x, r, S1, S2, q, s1, s2, j, p1, p2⟩ := h
    exact ⟨x, r, no, no, q, no_sub _, no_sub _, no_dj _, Rep.freeze e d (fun b o hb => k b o (s1 b hb)) p1, RepK.freeze e l (fun b o hb => k b o (s2 b hb)) p2⟩
theorem RepF.freeze (e : Ex F G) : ∀ (l : List (Str × D)) {xs : List (Str × V)} {S T : Set'}, (∀ a o, S a → H a = some o → G a = some o) → RepF K cm F H l xs S → RepF K cm G H' (D.freezeF l) xs T
  | [], _, _, _, _, h => by simpa only [RepF, D.freezeF] using h
  | (_, d) :: l, _, _, _, k, h => by
    simp only [RepF, D.freezeF] at h ⊢
    obtain ⟨x, r, S1, S2, q, s1, s2, j, p1, p2⟩ := h
    exact ⟨x, r, no, no, q, no_sub _, no_sub _, no_dj _, Rep.freeze e d (fun b o hb => k b o (s1 b hb)) p1, RepF.freeze e l (fun b o hb => k b o (s2 b hb)) p2⟩
end
end
end PI
/-! PI, part b: the small syntax and what it computes. -/
namespace PI
open PySem L2
abbrev Env := List (Option D)
abbrev Fs := List (Str × D)
inductive R (α : Type) where
  | ok (a : α) (v : Env)
  | exc (c : Nat) (fs : Fs) (v : Env)
  | err
def R.bind {α β : Type} (x : R α) (f : α → Env → R β) : R β := match x with
  | .ok a v => f a v
  | .exc c fs v => .exc c fs v
  | .err => .err
@[simp] theorem R.bind_ok {α β : Type} (a : α) (v : Env) (f : α → Env → R β) : (R.ok a v).bind f = f a v := rfl
@[simp] theorem R.bind_exc {α β : Type} (c : Nat) (fs : Fs) (v : Env) (f : α → Env → R β) : (R.exc c fs v : R α).bind f = .exc c fs v := rfl
@[simp] theorem R.bind_err {α β : Type} (f : α → Env → R β) : (R.err : R α).bind f = .err := rfl
def R.of {α : Type} (x : Option α) (v : Env) : R α := match x with
  | some a => .ok a v
  | none => .err
@[simp] theorem R.of_some {α : Type} (a : α) (v : Env) : R.of (some a) v = .ok a v := rfl
@[simp] theorem R.of_none {α : Type} (v : Env) : (R.of none v : R α) = .err := rfl
/-- a call's end: the value and the parameters' own values behind it -/
inductive Cr where
  | ret (d : D) (v : Env)
  | exc (c : Nat) (fs : Fs) (v : Env)
  | err
/-- built-in functions -/
inductive Bi where
  | len | int | str | abs | max | min | gcd | repr | tuple | list
  deriving DecidableEq
/-- methods of built-in types that change nothing -/
inductive Bm where
  | find | partition | join
  deriving DecidableEq
/-- what isinstance asks for -/
inductive Ty where
  | int | bool | str | list | tuple
  deriving DecidableEq
/-- targets -/
inductive Tg where
  | nm (i : Nat)
  | tp (is : List Nat)
mutual
inductive E where
  | non | bl (b : Bool) | int (i : Int) | str (z : Str)
  | var (i : Nat)
  | glob (k : Nat)
  | bin (op : Operator) (a b : E)
  | neg (a : E)
  | cmp (op : CmpOp) (a b : E)
  | andE (a b : E)
  | orE (a b : E)
  | one (a : E)
  | notE (a : E)
  | ife (c : T) (a b : E)
  | tup (es : Es)
  | lst (es : Es)
  | ixv (i : Nat) (b : E)
  | idx (a b : E)
  | slc (a : E) (lo hi : Op)
  | call (f : Nat) (es : Es)
  | biv (b : Bi) (i : Nat)
  | bi (b : Bi) (es : Es)
  | bm (m : Bm) (o : E) (es : Es)
  | lc (own : List Nat) (body : E) (t : Tg) (src : It') (cond : Cd)
  | fst (a : E) (z : Str) (c : E)
  | lstT (e : E) (es : Es) (o : E) (y z : Str)
  | isi (i : Nat) (t : Ty)
  | isg (a : E) (t : Ty)
  | isx (i : Nat) (cs : List Nat)
  | isv (i : Nat)
  | xfld (i : Nat) (f : Str)
inductive T where
  | andT (a b : T)
  | orT (a b : T)
  | oneT (a : T)
  | notT (a : T)
  | cmpT (op : CmpOp) (a b : E)
  | ev (e : E)
inductive Cd where
  | none
  | some (t : T)
inductive Es where
  | nil
  | cons (e : E) (es : Es)
  | vcons (i : Nat) (es : Es)
inductive Op where
  | none
  | some (e : E)
inductive It' where
  | ov (e : E)
  | rng (es : Es)
end
mutual
inductive S where
  | expr (e : E)
  | set (i : Nat) (e : E)
  | unp (is : List Nat) (e : E)
  | setix (i : Nat) (k : E) (e : E)
  | app (i : Nat) (e : E)
  | aug (i : Nat) (op : Operator) (e : E)
  | ret (e : E)
  | retN
  | ife (c : T) (a b : Ss)
  | forS (t : Tg) (src : It') (body : Ss)
  | whl (c : T) (body : Ss)
  | brk | cont | pass
  | raise (c : Nat) (es : Es)
  | tryS (body : Ss) (c : Nat) (i : Nat) (suite : Ss)
inductive Ss where
  | nil
  | cons (s : S) (r : Ss)
end
/-! ### what is computed on data -/
def isIntMul (i j : Int) : Bool := decide (-(2 ^ 64) < i ∧ i < 2 ^ 64) || decide (-(2 ^ 64) < j ∧ j < 2 ^ 64) || decide (i.natAbs.log2 + j.natAbs.log2 < 1000000)
def binD : Operator → D → D → Option D
  | .Add, .int i, .int j => some (.int (i + j))
  | .Add, .str x, .str y => if x.length + y.length ≤ sizeLine then some (.str (x ++ y)) else none
  | .Add, .lst .own l, .lst .own r => if D.frozenL l && D.frozenL r && decide (l.length + r.length ≤ sizeLine) then some (.lst .own (l ++ r)) else none
  | .Add, .lst .frz l, .lst .own r => if D.frozenL l && D.frozenL r && decide (l.length + r.length ≤ sizeLine) then some (.lst .own (l ++ r)) else none
  | .Add, .lst .own l, .lst .frz r => if D.frozenL l && D.frozenL r && decide (l.length + r.length ≤ sizeLine) then some (.lst .own (l ++ r)) else none
  | .Add, .lst .frz l, .lst .frz r => if D.frozenL l && D.frozenL r && decide (l.length + r.length ≤ sizeLine) then some (.lst .own (l ++ r)) else none
  | .Sub, .int i, .int j => some (.int (i - j))
  | .Mult, .int i, .int j => if isIntMul i j then some (.int (i * j)) else none
  | .Mult, .str x, .int j => if x.length * j.toNat ≤ sizeLine ∧ -(2 ^ 62) ≤ j ∧ j < 2 ^ 62 then some (.str (Txt.mul x j)) else none
  | .Mult, .lst .own l, .int j => if D.frozenL l && decide (l.length * j.toNat ≤ sizeLine ∧ -(2 ^ 63) ≤ j ∧ j < 2 ^ 63) then some (.lst .own (List.replicate j.toNat l).flatten) else none
  | .FloorDiv, .int i, .int j => if j ≠ 0 ∧ j.natAbs.log2 < 9000 then some (.int (i.fdiv j)) else none
  | .Mod, .int i, .int j => if j ≠ 0 then some (.int (i.fmod j)) else none
  | .Pow, .int i, .int j => if 0 ≤ j ∧ j ≤ 1000000 ∧ i.natAbs < 2 ^ 64 then some (.int (i ^ j.toNat)) else none
  | _, _, _ => none
/-- scalars that == tells apart -/
def scalD : D → D → Option Bool
  | .non, .non => some true
  | .non, .int _ | .int _, .non | .non, .bl _ | .bl _, .non | .non, .str _ | .str _, .non => some false
  | .int _, .str _ | .str _, .int _ | .bl _, .str _ | .str _, .bl _ => some false
  | .int i, .int j => some (decide (i = j))
  | .bl i, .bl j => some (decide (i = j))
  | .str i, .str j => some (decide (i = j))
  | _, _ => none
def isNon : D → Bool
  | .non => true
  | _ => false
def cmpD : CmpOp → D → D → Option Bool
  | .Eq, a, b => scalD a b
  | .NotEq, a, b => (scalD a b).map (!·)
  | .Lt, .int i, .int j => some (decide (i < j))
  | .LtE, .int i, .int j => some (decide (i ≤ j))
  | .Gt, .int i, .int j => some (decide (j < i))
  | .GtE, .int i, .int j => some (decide (j ≤ i))
  | .Is, a, .non => some (isNon a)
  | .IsNot, a, .non => some (!isNon a)
  | .In, .str x, .str y => some (!(Builtin.Str.occurrences y x 0 y.length 1).isEmpty)
  | .NotIn, .str x, .str y => some (!(!(Builtin.Str.occurrences y x 0 y.length 1).isEmpty))
  | _, _, _ => none
def truthD : D → Option Bool
  | .non => some false
  | .bl b => some b
  | .int i => some (i != 0)
  | .str z => if z.length ≤ sizeLine then some ((z.length : Int) != 0) else none
  | .tup l => some (!l.isEmpty)
  | .lst _ l => some (!l.isEmpty)
  | _ => none
/-- the item of a list, tuple or text -/
def ixD : D → D → Option D
  | .lst _ l, .int i => atI l i
  | .tup l, .int i => atI l i
  | .str z, .int i => if z.length ≤ sizeLine then (atI z.cps.toList i).map fun c => .str ⟨#[c]⟩ else none
  | _, _ => none
def cutD (xs : List D) (lo hi : Option Int) : List D := (xs.drop (HT.sIx xs.length 0 lo)).take (HT.sIx xs.length xs.length hi - HT.sIx xs.length 0 lo)
def slcD : D → Option Int → Option Int → Option D
  | .str z, lo, hi => if z.length ≤ sizeLine then some (.str (cutS z lo hi)) else none
  | .lst _ l, lo, hi => if D.frozenL l then some (.lst .own (cutD l lo hi)) else none
  | .tup l, lo, hi => if D.frozenL l && decide ((cutD l lo hi).length < l.length) then some (.tup (cutD l lo hi)) else none
  | _, _, _ => none
/-- the greatest number that is written, not to be reckoned -/
def digLim : Nat := 10 ^ 4300
theorem digLim_def : digLim = 10 ^ 4300 := rfl
mutual
def shW : PyData → Bool
  | .none | .bool _ | .str _ => true
  | .int i => decide (i.natAbs < digLim)
  | .list xs | .tuple xs => shWL xs
  | .dict _ => false
def shWL : List PyData → Bool
  | [] => true
  | x :: xs => shW x && shWL xs
end
mutual
/-- data that repr shows, as the library has them -/
def _root_.PI.D.py : D → Option PyData
  | .non => some .none
  | .bl b => some (.bool b)
  | .int i => some (.int i)
  | .str z => some (.str z)
  | .tup l => (D.pyL l).map .tuple
  | .lst _ l => (D.pyL l).map .list
  | _ => none
def _root_.PI.D.pyL : List D → Option (List PyData)
  | [] => some []
  | d :: l => (D.py d).bind fun p => (D.pyL l).map (p :: ·)
end
def biF : Bi → List D → Option D
  | .len, [.str z] => if z.length ≤ sizeLine then some (.int z.length) else none
  | .len, [.lst _ l] => some (.int l.length)
  | .len, [.tup l] => some (.int l.length)
  | .int, [.int i] => some (.int i)
  | .int, [.bl b] => some (.int (if b then 1 else 0))
  | .abs, [.int i] => some (.int (if i < 0 then -i else i))
  | .max, [.int i, .int j] => some (.int (if j > i then j else i))
  | .min, [.int i, .int j] => some (.int (if j < i then j else i))
  | .gcd, [.int i, .int j] => some (.int (Nat.gcd i.natAbs j.natAbs : Nat))
  | .str, [.int i] => if i.natAbs < digLim then some (.str (toString i)) else none
  | .repr, [d] => (D.py d).bind fun p => if shW p && decide (p.depth ≤ 50) && decide (p.shown.length ≤ sizeLine) then some (.str p.shown) else none
  | .int, [.str z] => if z.length ≤ 640 ∨ (640 < (numSeenOf z).length ∧ z.length ≤ sizeLine) then (intText? z).map .int else none
  | .tuple, [.lst _ l] => if D.frozenL l then some (.tup l) else none
  | .tuple, [.tup l] => if D.frozenL l then some (.tup l) else none
  | .list, [.lst _ l] => if D.frozenL l then some (.lst .own l) else none
  | .list, [.tup l] => if D.frozenL l then some (.lst .own l) else none
  | _, _ => none
def biCalm : Bi → Bool
  | .max | .min => true
  | _ => false
def strsOf : List D → Option (List Str)
  | [] => some []
  | .str z :: l => (strsOf l).map (z :: ·)
  | _ => none
def bmF : Bm → D → List D → Option D
  | .find, .str x, [.str y] => some (.int (Txt.find x y))
  | .partition, .str x, [.str y] => if y.length ≠ 0 ∧ x.length ≤ sizeLine then some (.tup [.str (Txt.partition x y).1, .str (Txt.partition x y).2.1, .str (Txt.partition x y).2.2]) else none
  | .join, .str x, [.lst _ l] => (strsOf l).bind fun zs => if (zs.map (·.length)).sum + zs.length * x.length ≤ 16777216 then some (.str (Txt.join x zs)) else none
  | _, _, _ => none
def isiD : D → Ty → Option Bool
  | .int _, .int => some true
  | .int _, _ => some false
  | .bl _, .int => some true
  | .bl _, .bool => some true
  | .bl _, _ => some false
  | .str _, .str => some true
  | .str _, _ => some false
  | .non, _ => some false
  | .tup _, .tuple => some true
  | .tup _, _ => some false
  | .lst _ _, .list => some true
  | .lst _ _, _ => some false
  | _, _ => none
/-- a text or a number in an f-string -/
def fmtD : D → Option Str
  | .str z => if z.length ≤ sizeLine then some z else none
  | .int i => if i.natAbs < digLim then some (toString i) else none
  | _ => none
def replD (y z : Str) : D → Option D
  | .str x => if x.length + (x.length + 1) * z.length ≤ 16777216 then some (.str (Txt.replace x y z)) else none
  | _ => none
/-! ### the interpreter -/
structure Ctx where
  cf : Bool → Nat → List D → Cr
  bv : Nat → List Bool
  gv : Nat → D
  sub : Nat → Nat → Bool
  xf : Nat → List Str
  rcs : List Nat
  cur : Option (Nat × Nat × Fs)
  fix : Nat → Bool
  calm : Bool
  W : Nat
/-- the handled exception's slot is not written -/
def Ctx.pr (C : Ctx) (i : Nat) : Bool := C.fix i || match C.cur with
  | some (j, _, _) => decide (j = i)
  | none => false
def Ctx.nc (C : Ctx) : Ctx := { C with cur := none, fix := fun _ => false }
def getV (v : Env) (i : Nat) : Option D := (v[i]?).join
def rdV (i : Nat) (v : Env) : R D := match getV v i with
  | some d => .ok d.freeze (v.set i (some d.freeze))
  | none => .err
/-- the item of what stands in slot i -/
def ixV (i : Nat) (k : D) (v : Env) : R D := match getV v i with
  | some d => match ixD d k with
    | some x => if x.frozen then .ok x v else .ok x.freeze (v.set i (some d.freeze))
    | none => .err
  | none => .err
inductive Ar where
  | d (x : D)
  | v (i : Nat)
def arVs : List Ar → List Nat
  | [] => []
  | .d _ :: l => arVs l
  | .v i :: l => i :: arVs l
/-- the arguments' data; what is handed by value is frozen -/
def arD : List Ar → List Bool → Env → Option (List D × Env)
  | [], _, v => some ([], v)
  | .d x :: l, b, v => (arD l b.tail v).map fun (ds, v') => (x :: ds, v')
  | .v i :: l, b, v => (getV v i).bind fun x =>
      if b.headD false then (arD l b.tail (v.set i (some x.freeze))).map fun (ds, v') => (x.freeze :: ds, v')
      else (arD l b.tail v).map fun (ds, v') => (x :: ds, v')
/-- behind a call: what the callee made of what was lent -/
def arB : List Ar → List Bool → Env → Env → Env
  | [], _, _, v => v
  | .d _ :: l, b, o, v => arB l b.tail o.tail v
  | .v i :: l, b, o, v => if b.headD false then arB l b.tail o.tail v else arB l b.tail o.tail (v.set i (o.headD none))
def noDup : List Nat → Bool
  | [] => true
  | i :: l => !l.contains i && noDup l
def callC (C : Ctx) (f : Nat) (as : List Ar) (v : Env) : R D :=
  if noDup (arVs as) then
    match arD as (C.bv f) v with
    | some (ds, v1) => match C.cf C.calm f ds with
      | .ret d o => .ok d (arB as (C.bv f) o v1)
      | .exc c fs o => .exc c fs (arB as (C.bv f) o v1)
      | .err => .err
    | none => .err
  else .err
def arAll : List Ar → Option (List D)
  | [] => some []
  | .d x :: l => (arAll l).map (x :: ·)
  | .v _ :: _ => none
def toB : D → Option Bool
  | .bl b => some b
  | _ => none
def toS : D → Option Str
  | .str z => some z
  | _ => none
def toI : D → Option Int
  | .int i => some i
  | _ => none
def rngD : List D → Option (List D)
  | [.int j] => if -(2 ^ 62) ≤ j ∧ j < 2 ^ 62 then some ((List.range j.toNat).map fun (k : Nat) => D.int k) else none
  | [.int i, .int j] => if -(2 ^ 62) ≤ i ∧ i < 2 ^ 62 ∧ -(2 ^ 62) ≤ j ∧ j < 2 ^ 62 then some ((List.range (j - i).toNat).map fun (k : Nat) => D.int (i + k)) else none
  | _ => none
def itemsD : D → Option (List D)
  | .lst _ l => if D.frozenL l then some l else none
  | .tup l => if D.frozenL l then some l else none
  | .str z => some (z.cps.toList.map fun c => .str ⟨#[c]⟩)
  | _ => none
def setAll : List Nat → List D → Env → Option Env
  | [], [], v => some v
  | i :: is, d :: ds, v => setAll is ds (v.set i (some d))
  | _, _, _ => none
def tgS : Tg → List Nat
  | .nm i => [i]
  | .tp is => is
def asT (C : Ctx) (t : Tg) (d : D) (v : Env) : Option Env := match t with
  | .nm i => if C.pr i then none else some (v.set i (some d))
  | .tp is => match d with
    | .tup l => if C.calm && D.frozenL l && !is.any C.pr then setAll is l v else none
    | _ => none
/-- the slots of a comprehension's own names are put aside, and back -/
def wipeE (v : Env) : List Nat → Env
  | [] => v
  | i :: is => (wipeE v is).set i none
def backE (v0 : Env) (v : Env) : List Nat → Env
  | [] => v
  | i :: is => (backE v0 v is).set i ((getV v0 i).filter D.frozen)
/-- nothing is raised out of a comprehension -/
def R.noX {α : Type} (r : R α) : R α := match r with
  | .exc _ _ _ => .err
  | r => r
@[simp] theorem R.noX_ok {α : Type} (a : α) (v : Env) : (R.ok a v).noX = .ok a v := rfl
def lcLoop (own : List Nat) (step : D → Env → R (Option D)) : List D → List D → Env → R (List D)
  | [], acc, v => .ok acc v
  | d :: l, acc, v => (step d v).noX.bind fun x v' => match x with
    | some y => if acc.length < sizeLine then lcLoop own step l (acc ++ [y]) (wipeE v' own) else .err
    | none => lcLoop own step l acc (wipeE v' own)
mutual
def evE (C : Ctx) : E → Env → R D
  | .non, v => .ok .non v
  | .bl b, v => .ok (.bl b) v
  | .int i, v => .ok (.int i) v
  | .str z, v => .ok (.str z) v
  | .var i, v => rdV i v
  | .glob k, v => .ok (C.gv k) v
  | .bin op a b, v => (evE C a v).bind fun x v1 => (evE C b v1).bind fun y v2 => .of (binD op x y) v2
  | .neg a, v => (evE C a v).bind fun x v1 => .of ((toI x).map fun i => .int (-i)) v1
  | .cmp op a b, v => (evE C a v).bind fun x v1 => (evE C b v1).bind fun y v2 => .of ((cmpD op x y).map .bl) v2
  | .andE a b, v => (evE C a v).bind fun x v1 => (R.of (toB x) v1).bind fun c v2 => if c then evE C b v2 else .ok (.bl false) v2
  | .orE a b, v => (evE C a v).bind fun x v1 => (R.of (toB x) v1).bind fun c v2 => if c then .ok (.bl true) v2 else evE C b v2
  | .one a, v => evE C a v
  | .notE a, v => (evE C a v).bind fun x v1 => (R.of (toB x) v1).bind fun c v2 => .ok (.bl (!c)) v2
  | .ife c a b, v => (evT C c v).bind fun c v1 => if c then evE C a v1 else evE C b v1
  | .tup es, v => (evA C es v).bind fun as v1 => (R.of (arAll as) v1).bind fun l v2 => if l.length ≤ sizeLine then .ok (.tup l) v2 else .err
  | .lst es, v => (evA C es v).bind fun as v1 => (R.of (arAll as) v1).bind fun l v2 => if l.length ≤ sizeLine then .ok (.lst .own l) v2 else .err
  | .ixv i b, v => match getV v i with
    | some _ => (evE C b v).bind fun k v1 => ixV i k v1
    | none => .err
  | .idx a b, v => (evE C a v).bind fun x v1 => (evE C b v1).bind fun k v2 => .of (ixD x k) v2
  | .slc a lo hi, v => (evE C a v).bind fun x v1 => (evO C lo v1).bind fun l v2 => (evO C hi v2).bind fun h v3 => .of (slcD x l h) v3
  | .call f es, v => (evA C es v).bind fun as v1 => callC C f as v1
  | .biv b i, v => if biCalm b then .err else match getV v i with
    | some d => .of (biF b [d]) v
    | none => .err
  | .bi b es, v => if biCalm b && !C.calm then .err else (evA C es v).bind fun as v1 => (R.of (arAll as) v1).bind fun l v2 => .of (biF b l) v2
  | .bm m o es, v => (evE C o v).bind fun x v1 => (R.of (toS x) v1).bind fun z v1 => (evA C es v1).bind fun as v2 => (R.of (arAll as) v2).bind fun l v3 => .of (bmF m (.str z) l) v3
  | .lc own body t src cond, v => if C.calm then (evI C src v).bind fun items v1 =>
      (lcLoop own (fun d v2 => match asT C.nc t d v2 with
        | some v3 => (evC C.nc cond v3).bind fun c v4 => if c then (evE C.nc body v4).bind fun y v5 => .ok (some y) v5 else .ok none v4
        | none => .err) items [] (wipeE v1 own)).bind fun l v6 => .ok (.lst .own l) (backE v1 v6 own)
      else .err
  | .fst a z c, v => if C.calm then ((evE C a v).bind fun x v1 => .of (fmtD x) v1).bind fun p v2 => if p.length + z.length ≤ sizeLine then ((evE C c v2).bind fun y v3 => .of (fmtD y) v3).bind fun q v4 =>
      if p.length + z.length + q.length ≤ sizeLine then .ok (.str (p ++ z ++ q)) v4 else .err
      else .err
    else .err
  | .lstT e es o y z, v => (evE C e v).bind fun x v1 => (evA C es v1).bind fun as v2 => (R.of (arAll as) v2).bind fun l v3 => (evE C o v3).bind fun s v4 =>
      (R.of (replD y z s) v4).bind fun r v5 => if l.length + 2 ≤ sizeLine then .ok (.lst .own (x :: l ++ [r])) v5 else .err
  | .isi i t, v => match getV v i with
    | some d => .of ((isiD d t).map .bl) v
    | none => .err
  | .isg a t, v => (evE C a v).bind fun x v1 => .of ((isiD x t).map .bl) v1
  | .isx i cs, v => match C.cur with
    | some (j, c, _) => if j = i then .ok (.bl (cs.any (C.sub c))) v else .err
    | none => .err
  | .isv i, v => match C.cur with
    | some (j, _, _) => if j = i then .ok (.bl true) v else .err
    | none => .err
  | .xfld i f, v => match C.cur with
    | some (j, c, fs) => if j = i ∧ (C.xf c).contains f = true then .of (fs.lookup f) v else .err
    | none => .err
def evT (C : Ctx) : T → Env → R Bool
  | .andT a b, v => (evT C a v).bind fun c v1 => if c then evT C b v1 else .ok false v1
  | .orT a b, v => (evT C a v).bind fun c v1 => if c then .ok true v1 else evT C b v1
  | .notT a, v => (evT C a v).bind fun c v1 => .ok (!c) v1
  | .oneT a, v => evT C a v
  | .cmpT op a b, v => (evE C a v).bind fun x v1 => (evE C b v1).bind fun y v2 => .of (cmpD op x y) v2
  | .ev e, v => (evE C e v).bind fun x v1 => .of (truthD x) v1
def evC (C : Ctx) : Cd → Env → R Bool
  | .none, v => .ok true v
  | .some t, v => evT C t v
def evA (C : Ctx) : Es → Env → R (List Ar)
  | .nil, v => .ok [] v
  | .cons e es, v => (evE C e v).bind fun x v1 => (evA C es v1).bind fun as v2 => .ok (.d x :: as) v2
  | .vcons i es, v => match getV v i with
    | some _ => (evA C es v).bind fun as v2 => .ok (.v i :: as) v2
    | none => .err
def evO (C : Ctx) : Op → Env → R (Option Int)
  | .none, v => .ok none v
  | .some e, v => (evE C e v).bind fun x v1 => .of ((toI x).map some) v1
def evI (C : Ctx) : It' → Env → R (List D)
  | .ov e, v => (evE C e v).bind fun x v1 => .of (itemsD x) v1
  | .rng es, v => (evA C es v).bind fun as v1 => (R.of (arAll as) v1).bind fun l v2 => .of (rngD l) v2
end
/-- a statement's end -/
inductive RS where
  | nx (v : Env)
  | brk (v : Env)
  | cont (v : Env)
  | ret (d : D) (v : Env)
  | exc (c : Nat) (fs : Fs) (v : Env)
  | err
def R.s {α : Type} (x : R α) (f : α → Env → RS) : RS := match x with
  | .ok a v => f a v
  | .exc c fs v => .exc c fs v
  | .err => .err
@[simp] theorem R.s_ok {α : Type} (a : α) (v : Env) (f : α → Env → RS) : (R.ok a v).s f = f a v := rfl
@[simp] theorem R.s_exc {α : Type} (c : Nat) (fs : Fs) (v : Env) (f : α → Env → RS) : (R.exc c fs v : R α).s f = .exc c fs v := rfl
@[simp] theorem R.s_err {α : Type} (f : α → Env → RS) : (R.err : R α).s f = .err := rfl
def forL (step : D → Env → RS) : List D → Env → RS
  | [], v => .nx v
  | d :: l, v => match step d v with
    | .nx v' => forL step l v'
    | .cont v' => forL step l v'
    | .brk v' => .nx v'
    | r => r
def whlL (test : Env → R Bool) (body : Env → RS) : Nat → Env → RS
  | 0, _ => .err
  | n + 1, v => (test v).s fun c v1 => if c then match body v1 with
      | .nx v' => whlL test body n v'
      | .cont v' => whlL test body n v'
      | .brk v' => .nx v'
      | r => r
    else .nx v1
def asR (C : Ctx) (t : Tg) (d : D) (v : Env) (k : Env → RS) : RS := match asT C t d v with
  | some v' => k v'
  | none => .err
def setIx (i : Nat) (k d : D) (v : Env) : Option Env := match getV v i, k with
  | some (.lst .own l), .int j => (ixN l.length j).map fun n => v.set i (some (.lst .own (l.set n d)))
  | _, _ => none
def appV (i : Nat) (d : D) (v : Env) : Option Env := match getV v i with
  | some (.lst .own l) => if l.length < sizeLine then some (v.set i (some (.lst .own (l ++ [d])))) else none
  | _ => none
def okR (x : Option Env) : RS := match x with
  | some v => .nx v
  | none => .err
@[simp] theorem okR_some (v : Env) : okR (some v) = .nx v := rfl
@[simp] theorem okR_none : okR none = .err := rfl
mutual
def exS (C : Ctx) : S → Env → RS
  | .expr e, v => (evE C e v).s fun _ v1 => .nx v1
  | .set i e, v => (evE C e v).s fun x v1 => okR (asT C (.nm i) x v1)
  | .unp is e, v => (evE C e v).s fun x v1 => okR (asT C (.tp is) x v1)
  | .setix i k e, v => (evE C e v).s fun x v1 => match getV v1 i with
    | some _ => (evE C k v1).s fun j v2 => okR (setIx i j x v2)
    | none => .err
  | .app i e, v => match getV v i with
    | some (.lst .own _) => (evE C e v).s fun x v1 => okR (appV i x v1)
    | _ => .err
  | .aug i op e, v => .err
  | .ret e, v => (evE C e v).s fun x v1 => .ret x v1
  | .retN, v => .ret .non v
  | .ife c a b, v => (evT C c v).s fun c v1 => if c then exSs C a v1 else exSs C b v1
  | .forS t src body, v => if C.calm then (evI C src v).s fun items v1 => forL (fun d v2 => asR C t d v2 fun v3 => exSs C body v3) items v1 else .err
  | .whl c body, v => whlL (evT C c) (exSs C body) C.W v
  | .brk, v => .brk v
  | .cont, v => .cont v
  | .pass, v => .nx v
  | .raise c es, v => if C.calm && C.rcs.contains c then (evA C es v).s fun as v1 => (R.of (arAll as) v1).s fun l v2 =>
      if D.frozenL l && decide ((C.xf c).length = l.length) then .exc c ((C.xf c).zip l).reverse v2 else .err
    else .err
  | .tryS body c i suite, v => if C.calm && !C.pr i && C.cur.isNone then match exSs C body v with
      | .exc c' fs v1 => if C.rcs.contains c' && decide (i < v1.length) then if C.sub c' c then match exSs { C with cur := some (i, c', fs), calm := false } suite (v1.set i none) with
          | .nx v2 => .nx (v2.set i none)
          | .brk v2 => .brk (v2.set i none)
          | .cont v2 => .cont (v2.set i none)
          | .ret d v2 => .ret d (v2.set i none)
          | _ => .err
          else .exc c' fs v1
        else .err
      | r => r
    else .err
def exSs (C : Ctx) : Ss → Env → RS
  | .nil, v => .nx v
  | .cons s r, v => match exS C s v with
    | .nx v1 => exSs C r v1
    | x => x
end
end PI
/-! PI, part c: what a step changes; operators on data. -/
namespace PI
open PySem L2
structure Gd (F H : Hp) (S : Set') : Prop where
  ex : Ex F H
  dj : ∀ a, S a → F a = none
  dom : ∀ a, S a → ∃ o, H a = some o
structure Tr (F H : Hp) (S : Set') (F' H' : Hp) (S' : Set') : Prop where
  ex : Ex F F'
  gd : Gd F' H' S'
  old : ∀ a, S' a → S a ∨ H a = none
  keep : ∀ a o, H a = some o → ¬ S a → H' a = some o
  nf : ∀ a o, F' a = some o → F a = some o ∨ S a ∨ H a = none
section
variable {F H F' H' F2 H2 : Hp} {S S' S2 T R : Set'}
theorem Gd.sub (g : Gd F H S) (h : Sub T S) : Gd F H T := ⟨g.ex, fun a z => g.dj a (h a z), fun a z => g.dom a (h a z)⟩
theorem Tr.refl (g : Gd F H S) : Tr F H S F H S := ⟨Ex.refl F, g, fun _ h => .inl h, fun _ _ h _ => h, fun _ _ h => .inl h⟩
theorem Tr.trans (t : Tr F H S F' H' S') (u : Tr F' H' S' F2 H2 S2) : Tr F H S F2 H2 S2 := by
  refine ⟨t.ex.trans u.ex, u.gd, fun a h => ?_, fun a o h n => ?_, fun a o h => ?_⟩
  · rcases u.old a h with h | h
    · exact t.old a h
    · by_cases z : S a
      · exact .inl z
      · refine .inr ?_
        cases e : H a with
        | none => rfl
        | some o =>
          rw [t.keep a o e z] at h
          cases h
  · refine u.keep a o (t.keep a o h n) fun z => ?_
    rcases t.old a z with y | y
    · exact n y
    · rw [h] at y
      cases y
  · rcases u.nf a o h with h | h | h
    · exact t.nf a o h
    · exact .inr (t.old a h)
    · by_cases z : S a
      · exact .inr (.inl z)
      · refine .inr (.inr ?_)
        cases e : H a with
        | none => rfl
        | some o =>
          rw [t.keep a o e z] at h
          cases h
theorem Tr.sub (t : Tr F H S F' H' S') (h : Sub T S') : Tr F H S F' H' T := ⟨t.ex, t.gd.sub h, fun a z => t.old a (h a z), t.keep, t.nf⟩
/-- what stands beside stays -/
theorem Tr.beside (t : Tr F H S F' H' S') (hR : Gd F H R) (j : Dj S R) : (∀ a, R a → H' a = H a) ∧ Gd F' H' R ∧ Dj S' R := by
  have k : ∀ a, R a → H' a = H a := fun a z => by
    obtain ⟨o, e⟩ := hR.dom a z
    rw [t.keep a o e fun y => j a y z, e]
  refine ⟨k, ⟨t.gd.ex, fun a z => ?_, fun a z => by rw [k a z]; exact hR.dom a z⟩, fun a y z => ?_⟩
  · cases e : F' a with
    | none => rfl
    | some o =>
      rcases t.nf a o e with y | y | y
      · rw [hR.dj a z] at y; cases y
      · exact (j a y z).elim
      · obtain ⟨o', e'⟩ := hR.dom a z
        rw [e'] at y; cases y
  · rcases t.old a y with y | y
    · exact j a y z
    · obtain ⟨o', e'⟩ := hR.dom a z
      rw [e'] at y; cases y
theorem Gd.un (g : Gd F H S) (g' : Gd F H T) : Gd F H (un S T) := ⟨g.ex, fun a z => z.elim (g.dj a) (g'.dj a), fun a z => z.elim (g.dom a) (g'.dom a)⟩
theorem Tr.frame (t : Tr F H S F' H' S') (hR : Gd F H R) (j : Dj S R) : Tr F H (PI.un S R) F' H' (PI.un S' R) := by
  obtain ⟨k, g, d⟩ := t.beside hR j
  exact ⟨t.ex, t.gd.un g, fun a z => z.elim (fun z => (t.old a z).imp .inl id) (fun z => .inl (.inr z)), fun a o h n => t.keep a o h fun z => n (.inl z), fun a o h => (t.nf a o h).imp id (Or.imp .inl id)⟩
/-- a smaller footprint is a greater one -/
theorem Tr.wide (t : Tr F H S F' H' S') (h : Sub S T) : Tr F H T F' H' S' :=
  ⟨t.ex, t.gd, fun a z => (t.old a z).imp (h a) id, fun a o e n => t.keep a o e fun z => n (h a z), fun a o e => (t.nf a o e).imp id (Or.imp (h a) id)⟩
theorem Gd.no (e : Ex F H) : Gd F H no := ⟨e, fun _ h => h.elim, fun _ h => h.elim⟩
/-- a new object that may change -/
theorem tr_own {p : Addr} {o : HO} (e : Ex F H) (h : H p = none) : Tr F H no F (upd H p o) (at1 p) := by
  have fp : F p = none := by
    cases q : F p with
    | none => rfl
    | some u => rw [e p u q] at h; cases h
  refine ⟨Ex.refl F, ⟨fun a u q => ?_, fun a z => by obtain rfl : a = p := z; exact fp, fun a z => by obtain rfl : a = p := z; exact ⟨o, upd_same⟩⟩, fun a z => by obtain rfl : a = p := z; exact .inr h, fun a u q _ => ?_, fun a u q => .inl q⟩
  · rw [upd_ne fun z => by rw [z, fp] at q; cases q]
    exact e a u q
  · rw [upd_ne fun z => by rw [z, h] at q; cases q]
    exact q
/-- a new object that never changes -/
theorem tr_frz {p : Addr} {o : HO} (e : Ex F H) (h : H p = none) : Tr F H no (upd F p o) (upd H p o) no := by
  have fp : F p = none := by
    cases q : F p with
    | none => rfl
    | some u => rw [e p u q] at h; cases h
  refine ⟨fun a u q => ?_, ⟨fun a u q => ?_, fun _ z => z.elim, fun _ z => z.elim⟩, fun _ z => z.elim, fun a u q _ => ?_, fun a u q => ?_⟩
  · rw [upd_ne fun z => by rw [z, fp] at q; cases q]
    exact q
  · by_cases z : a = p
    · rw [z, upd_same] at q
      rw [z, upd_same]
      exact q
    · rw [upd_ne z] at q
      rw [upd_ne z]
      exact e a u q
  · rw [upd_ne fun z => by rw [z, h] at q; cases q]
    exact q
  · by_cases z : a = p
    · rw [z]
      exact .inr (.inr h)
    · rw [upd_ne z] at q
      exact .inl q
theorem ex_upd {p : Addr} {o : HO} (h : F p = none) : Ex F (upd F p o) := fun a u q => by
  rw [upd_ne fun z => by rw [z, h] at q; cases q]
  exact q
theorem ex_none {p : Addr} (e : Ex F H) (h : H p = none) : F p = none := by
  cases q : F p with
  | none => rfl
  | some u => rw [e p u q] at h; cases h
end
section
variable {K : PySem.W.Frag} {cm : Nat → Addr} {F H F' H' : Hp} {S S' : Set'} {v : Env} {σ : L2.St}
/-- an exception's dict holds the fields fs (none: it has no dict) -/
def XR (K : PySem.W.Frag) (cm : Nat → Addr) (F H : Hp) (dd : Option Addr) (fs : Fs) : Prop := match dd with
  | none => fs = []
  | some d => ∃ xs, F d = some (.xd xs) ∧ RepF K cm F H fs xs no
theorem XR.mono {dd : Option Addr} {fs : Fs} (h : XR K cm F H dd fs) (e : Ex F F') : XR K cm F' H' dd fs := by
  cases dd with
  | none => exact h
  | some d =>
    obtain ⟨xs, h1, h2⟩ := h
    exact ⟨xs, e _ _ h1, h2.mono e fs (Sub.refl _) fun a z => z.elim⟩
/-- the handled exception: its slot, its address, its dict, its fields -/
structure Px where
  ex : Option (Nat × Addr × Option Addr × Fs)
  fx : Nat → Option V
def px0 : Px := ⟨none, fun _ => none⟩
variable {px : Px}
/-- the handled exception stands in its slot, the fixed slots hold what they held at first -/
def PxOk (K : PySem.W.Frag) (cm : Nat → Addr) (px : Px) (F : Hp) (σ : St) : Prop := (∀ q, px.ex = some q → σ[q.1]? = some (some (.ref q.2.1)) ∧ XR K cm F F q.2.2.1 q.2.2.2) ∧ ∀ i x, px.fx i = some x → σ[i]? = some (some x)
def PxNe (px : Px) (i : Nat) : Prop := (∀ q, px.ex = some q → q.1 ≠ i) ∧ px.fx i = none
theorem PxOk.mono (h : PxOk K cm px F σ) (e : Ex F F') : PxOk K cm px F' σ := ⟨fun q z => ⟨(h.1 q z).1, (h.1 q z).2.mono e⟩, h.2⟩
theorem PxOk.set {i : Nat} {x : Option V} (h : PxOk K cm px F σ) (n : PxNe px i) : PxOk K cm px F (σ.set i x) := by
  refine ⟨fun q z => ⟨?_, (h.1 q z).2⟩, fun j y z => ?_⟩
  · rw [List.getElem?_set_ne (Ne.symm (n.1 q z))]
    exact (h.1 q z).1
  · rw [List.getElem?_set_ne (fun e => by rw [← e, n.2] at z; cases z)]
    exact h.2 j y z
theorem PxOk.none : PxOk K cm px0 F σ := ⟨fun q z => (nomatch z), fun i x z => (nomatch z)⟩
theorem PxNe.none {i : Nat} : PxNe px0 i := ⟨fun q z => (nomatch z), rfl⟩
def SRs (K : PySem.W.Frag) (cm : Nat → Addr) (px : Px) (F H : Hp) (v : Env) (σ : St) (S : Set') : Prop :=
  v.length = σ.length ∧ PxOk K cm px F σ ∧ ∃ T : Nat → Set', (∀ i, Sub (T i) S) ∧ (∀ i j, i ≠ j → Dj (T i) (T j)) ∧ ∀ i d, v[i]? = some (some d) → ∃ x, σ[i]? = some (some x) ∧ Rep K cm F H d x (T i)
theorem SRs.mono (h : SRs K cm px F H v σ S) (e : Ex F F') (k : ∀ a, S a → H' a = H a) (s : Sub S S') : SRs K cm px F' H' v σ S' := by
  obtain ⟨hl, hp, T, h1, h2, h3⟩ := h
  refine ⟨hl, hp.mono e, T, fun i => (h1 i).trans s, h2, fun i d q => ?_⟩
  obtain ⟨x, e1, r⟩ := h3 i d q
  exact ⟨x, e1, r.mono e d (Sub.refl _) fun a z => k a (h1 i a z)⟩
theorem getV_some {i : Nat} {d : D} (h : getV v i = some d) : v[i]? = some (some d) := by
  unfold getV at h
  cases e : v[i]? with
  | none => rw [e] at h; cases h
  | some o =>
    rw [e] at h
    cases o with
    | none => cases h
    | some d' =>
      cases h
      rfl
theorem SRs.get (h : SRs K cm px F H v σ S) {i : Nat} {d : D} (e : getV v i = some d) : ∃ x, σ[i]? = some (some x) ∧ Rep K cm F H d x S := by
  obtain ⟨hl, hp, T, h1, h2, h3⟩ := h
  obtain ⟨x, e1, r⟩ := h3 i d (getV_some e)
  exact ⟨x, e1, r.mono (Ex.refl _) d (h1 i) fun _ _ => rfl⟩
/-- slot i gets a value; what it held before is let go -/
theorem SRs.put (h : SRs K cm px F H v σ S) (i : Nat) (n : PxNe px i) {d : D} {x : V} {R U : Set'} (r : Rep K cm F H d x R) (j : Dj S R) (s : Sub S U) (s' : Sub R U) : SRs K cm px F H (v.set i (some d)) (σ.set i (some x)) U := by
  obtain ⟨hl, hp, T, h1, h2, h3⟩ := h
  refine ⟨by simp [hl], hp.set n, fun k => if k = i then R else T k, fun k => ?_, fun k l n => ?_, fun k d' q => ?_⟩
  · by_cases z : k = i
    · simp only [z, if_true]; exact s'
    · simp only [z, if_false]; exact (h1 k).trans s
  · by_cases z : k = i
    · by_cases y : l = i
      · exact absurd (z.trans y.symm) n
      · simp only [z, y, if_true, if_false]; exact fun a p q => j a (h1 l a q) p
    · by_cases y : l = i
      · simp only [z, y, if_true, if_false]; exact fun a p q => j a (h1 k a p) q
      · simp only [z, y, if_false]; exact h2 k l n
  · by_cases z : k = i
    · subst z
      have hk : k < v.length := by
        have := (List.getElem?_eq_some_iff.mp q).1
        simpa using this
      rw [List.getElem?_set_self hk] at q
      cases q
      refine ⟨x, by rw [List.getElem?_set_self (by rw [← hl]; exact hk)], ?_⟩
      simp only [if_true]
      exact r
    · rw [List.getElem?_set_ne (Ne.symm z)] at q
      obtain ⟨y, e1, r1⟩ := h3 k d' q
      refine ⟨y, by rw [List.getElem?_set_ne (Ne.symm z)]; exact e1, ?_⟩
      simp only [z, if_false]
      exact r1
theorem set_same {i : Nat} {y : V} (e : σ[i]? = some (some y)) : σ.set i (some y) = σ := by
  apply List.ext_getElem?
  intro n
  by_cases z : n = i
  · subst z
    have hk := (List.getElem?_eq_some_iff.mp e).1
    rw [List.getElem?_set_self hk, e]
  · rw [List.getElem?_set_ne (Ne.symm z)]
theorem SRs.nopx (h : SRs K cm px F H v σ S) : SRs K cm px0 F H v σ S := ⟨h.1, PxOk.none, h.2.2⟩
theorem SRs.pok (h : SRs K cm px F H v σ S) : PxOk K cm px F σ := h.2.1
theorem SRs.repx {S0 : Set'} {v0 : Env} {F0 H0 : Hp} (h0 : SRs K cm px F0 H0 v0 σ S0) (e : Ex F0 F) (h : SRs K cm px0 F H v σ S) : SRs K cm px F H v σ S := ⟨h.1, h0.2.1.mono e, h.2.2⟩
/-- slot i's datum is told anew -/
theorem SRs.put' (h : SRs K cm px F H v σ S) (i : Nat) {d : D} {x : V} {R U : Set'} (e : σ[i]? = some (some x)) (r : Rep K cm F H d x R) (j : Dj S R) (s : Sub S U) (s' : Sub R U) : SRs K cm px F H (v.set i (some d)) σ U := by
  have q := h.nopx.put i PxNe.none r j s s'
  rw [set_same e] at q
  exact h.repx (Ex.refl _) q
/-- slot i is emptied -/
theorem SRs.drop (h : SRs K cm px F H v σ S) (i : Nat) : SRs K cm px F H (v.set i none) σ S := by
  obtain ⟨hl, hp, T, h1, h2, h3⟩ := h
  refine ⟨by simp [hl], hp, T, h1, h2, fun k d q => ?_⟩
  by_cases z : k = i
  · subst z
    have hk : k < v.length := by
      have := (List.getElem?_eq_some_iff.mp q).1
      simpa using this
    rw [List.getElem?_set_self hk] at q
    cases q
  · rw [List.getElem?_set_ne (Ne.symm z)] at q
    exact h3 k d q
/-- the values' own slots of σ where v holds nothing don't matter -/
theorem SRs.sig {σ' : St} (h : SRs K cm px F H v σ S) (hl : σ'.length = σ.length) (kp : PxOk K cm px F σ → PxOk K cm px F σ') (k : ∀ (i : Nat) (d : D), v[i]? = some (some d) → σ'[i]? = σ[i]?) : SRs K cm px F H v σ' S := by
  obtain ⟨hl', hp, T, h1, h2, h3⟩ := h
  refine ⟨hl'.trans hl.symm, kp hp, T, h1, h2, fun i d q => ?_⟩
  obtain ⟨x, e1, r⟩ := h3 i d q
  exact ⟨x, (k i d q).trans e1, r⟩
/-- slot i is frozen in place -/
theorem SRs.frzAt (h : SRs K cm px F H v σ S) (g : Gd F H S) {i : Nat} {d : D} (e : getV v i = some d) :
    ∃ F' S' x, σ[i]? = some (some x) ∧ Tr F H S F' H S' ∧ SRs K cm px F' H (v.set i (some d.freeze)) σ S' ∧ Rep K cm F' H d.freeze x no := by
  obtain ⟨hl, hp, T, h1, h2, h3⟩ := h
  obtain ⟨x, e1, r⟩ := h3 i d (getV_some e)
  have dj : ∀ a, T i a → F a = none := fun a z => g.dj a (h1 i a z)
  have ex' := fzH_ex (H := H) dj
  have rf : Rep K cm (fzH F H (T i)) H d.freeze x no := r.freeze ex' d fun a o z q => by rw [fzH_in z]; exact q
  have hT : Tr F H S (fzH F H (T i)) H (fun a => S a ∧ ¬ T i a) := by
    refine ⟨ex', ⟨fzH_le g.ex, fun a z => by rw [fzH_out z.2]; exact g.dj a z.1, fun a z => g.dom a z.1⟩, fun a z => .inl z.1, fun a o q _ => q, fun a o q => ?_⟩
    by_cases z : T i a
    · exact .inr (.inl (h1 i a z))
    · rw [fzH_out z] at q
      exact .inl q
  refine ⟨_, _, x, e1, hT, ⟨by simp [hl], hp.mono ex', fun k => if k = i then no else T k, fun k => ?_, fun k l n => ?_, fun k d' q => ?_⟩, rf⟩
  · by_cases z : k = i
    · simp only [z, if_true]; exact no_sub _
    · simp only [z, if_false]; exact fun a p => ⟨h1 k a p, fun y => h2 k i z a p y⟩
  · by_cases z : k = i
    · simp only [z, if_true]; exact no_dj _
    · by_cases y : l = i
      · simp only [y, if_true]; exact dj_no _
      · simp only [z, y, if_false]; exact h2 k l n
  · by_cases z : k = i
    · subst z
      have hk : k < v.length := by
        have := (List.getElem?_eq_some_iff.mp q).1
        simpa using this
      rw [List.getElem?_set_self hk] at q
      cases q
      refine ⟨x, e1, ?_⟩
      simp only [if_true]
      exact rf
    · rw [List.getElem?_set_ne (Ne.symm z)] at q
      obtain ⟨y, e2, r2⟩ := h3 k d' q
      refine ⟨y, e2, ?_⟩
      simp only [z, if_false]
      exact r2.mono ex' d' (Sub.refl _) fun _ _ => rfl
end
/-- what a pure step leaves: a value for d, new objects alone -/
def PR (K : PySem.W.Frag) (cm : Nat → Addr) (F H : Hp) (d : D) (Q : VK) : Prop := ∀ x F' H' S', Tr F H no F' H' S' → Rep K cm F' H' d x S' → Q x H'
section
variable {K : PySem.W.Frag} {cm : Nat → Addr} {F H F' H' : Hp} {Q : VK}
theorem PR.int {i : Int} (e : Ex F H) (h : PR K cm F H (.int i) Q) : Q (.int i) H := h _ F H no (Tr.refl (Gd.no e)) (by simp only [Rep])
theorem PR.str {i : Str} (e : Ex F H) (h : PR K cm F H (.str i) Q) : Q (.str i) H := h _ F H no (Tr.refl (Gd.no e)) (by simp only [Rep])
theorem PR.bl {i : Bool} (e : Ex F H) (h : PR K cm F H (.bl i) Q) : Q (.bl i) H := h _ F H no (Tr.refl (Gd.no e)) (by simp only [Rep])
theorem PR.non (e : Ex F H) (h : PR K cm F H .non Q) : Q .non H := h _ F H no (Tr.refl (Gd.no e)) (by simp only [Rep])
theorem PR.same {d : D} {x : V} (e : Ex F H) (r : Rep K cm F H d x no) (h : PR K cm F H d Q) : Q x H := h _ F H no (Tr.refl (Gd.no e)) r
/-- a new list of frozen things -/
theorem PR.lst {l : List D} {xs : List V} {p : Addr} (e : Ex F H) (r : RepL K cm F H l xs no) (h : PR K cm F H (.lst .own l) Q) (hp : H p = none) : Q (.ref p) (upd H p (.lst xs)) := by
  refine h _ F _ (at1 p) (tr_own e hp) ?_
  simp only [Rep]
  refine ⟨p, xs, no, rfl, upd_same, rfl, no_sub _, fun z => z, r.mono (Ex.refl _) l (Sub.refl _) fun a z => z.elim⟩
theorem PR.tup {l : List D} {xs : List V} {p : Addr} (e : Ex F H) (r : RepL K cm F H l xs no) (h : PR K cm F H (.tup l) Q) (hp : H p = none) : Q (.ref p) (upd H p (.tup xs)) := by
  refine h _ _ _ no (tr_frz e hp) ?_
  simp only [Rep]
  exact ⟨p, xs, rfl, SqT.of upd_same, r.mono (ex_upd (ex_none e hp)) l (Sub.refl _) fun a z => z.elim⟩
theorem RepL.len : ∀ {l : List D} {xs : List V} {S : Set'}, RepL K cm F H l xs S → xs.length = l.length
  | [], _, _, h => by simp only [RepL] at h; simp [h]
  | d :: l, _, _, h => by
    simp only [RepL] at h
    obtain ⟨x, r, _, _, rfl, _, _, _, _, q⟩ := h
    simp [RepL.len q]
theorem RepL.at : ∀ {l : List D} {xs : List V} {S : Set'} {i : Nat} {d : D}, RepL K cm F H l xs S → l[i]? = some d → ∃ x, xs[i]? = some x ∧ Rep K cm F H d x S
  | [], _, _, _, _, _, h => by cases h
  | e :: l, _, _, 0, d, h, q => by
    simp only [RepL] at h
    obtain ⟨x, r, S1, S2, rfl, s1, _, _, p, _⟩ := h
    simp only [List.getElem?_cons_zero, Option.some.injEq] at q
    subst q
    exact ⟨x, rfl, p.mono (Ex.refl _) e s1 fun _ _ => rfl⟩
  | e :: l, _, _, i + 1, d, h, q => by
    simp only [RepL] at h
    obtain ⟨x, r, S1, S2, rfl, _, s2, _, _, p⟩ := h
    obtain ⟨y, h1, h2⟩ := RepL.at (i := i) (d := d) p (by simpa using q)
    exact ⟨y, by simpa using h1, h2.mono (Ex.refl _) d s2 fun _ _ => rfl⟩
theorem RepL.append : ∀ {l r : List D} {xs ys : List V}, RepL K cm F H l xs no → RepL K cm F H r ys no → RepL K cm F H (l ++ r) (xs ++ ys) no
  | [], r, xs, ys, h, g => by simp only [RepL] at h; subst h; exact g
  | d :: l, r, xs, ys, h, g => by
    simp only [RepL, List.cons_append] at h ⊢
    obtain ⟨x, q, S1, S2, rfl, s1, s2, _, p1, p2⟩ := h
    exact ⟨x, q ++ ys, no, no, rfl, no_sub _, no_sub _, no_dj _, p1.mono (Ex.refl _) d s1 fun _ _ => rfl, RepL.append (p2.mono (Ex.refl _) l s2 fun _ _ => rfl) g⟩
theorem RepL.take : ∀ {l : List D} {xs : List V} {S : Set'} (n : Nat), RepL K cm F H l xs S → RepL K cm F H (l.take n) (xs.take n) S
  | l, xs, S, 0, h => by simp [RepL]
  | [], xs, S, n + 1, h => by simp only [RepL] at h; subst h; simp [RepL]
  | d :: l, xs, S, n + 1, h => by
    simp only [RepL, List.take_succ_cons] at h ⊢
    obtain ⟨x, r, S1, S2, rfl, s1, s2, j, p1, p2⟩ := h
    exact ⟨x, r.take n, S1, S2, by simp, s1, s2, j, p1, RepL.take n p2⟩
theorem RepL.drop : ∀ {l : List D} {xs : List V} {S : Set'} (n : Nat), RepL K cm F H l xs S → RepL K cm F H (l.drop n) (xs.drop n) S
  | l, xs, S, 0, h => by simpa using h
  | [], xs, S, n + 1, h => by simp only [RepL] at h; subst h; simp [RepL]
  | d :: l, xs, S, n + 1, h => by
    simp only [RepL, List.drop_succ_cons] at h ⊢
    obtain ⟨x, r, S1, S2, rfl, s1, s2, j, p1, p2⟩ := h
    rw [List.drop_succ_cons]
    exact (RepL.drop n p2).mono (Ex.refl _) _ s2 fun _ _ => rfl
theorem RepL.rep {l : List D} {xs : List V} (h : RepL K cm F H l xs no) : ∀ n : Nat, RepL K cm F H (List.replicate n l).flatten (List.replicate n xs).flatten no
  | 0 => by simp [RepL]
  | n + 1 => by
    rw [List.replicate_succ, List.flatten_cons, List.replicate_succ, List.flatten_cons]
    exact h.append (RepL.rep h n)
end
end PI
/-! PI, part d: operators, comparisons, subscripts, built-ins by data. -/
namespace PI
open PySem PySem.Spec PyProof.Rows L2
def rD (K : PySem.W.Frag) (cm : Nat → Addr) (g : D → D → Option D) : R2 := fun x y H Q => ∃ F dx dy d Sx Sy, Ex F H ∧ Rep K cm F H dx x Sx ∧ Rep K cm F H dy y Sy ∧ g dx dy = some d ∧ PR K cm F H d Q
section
variable {X : Cx} {cm : Nat → Addr}
theorem mulOk_of {x : Str} {j : Int} (h : x.length * j.toNat ≤ sizeLine ∧ -(2 ^ 62) ≤ j ∧ j < 2 ^ 62) : MulOk x j := by
  obtain ⟨h1, h2, h3⟩ := h
  refine ⟨?_, fun g1 g2 g3 => ?_, fun g1 g2 => ?_⟩
  · simp only [Bool.or_eq_false_iff, decide_eq_false_iff_not]
    omega
  · have z : 0 < x.length := by
      simp only [Bool.or_eq_false_iff] at g2
      have := g2.2
      simp at this
      omega
    have hs : sizeLine < 2 ^ 60 := by rw [sizeLine_eq]; decide
    have e1 : (x.length : Int) * j < 2 ^ 60 := by
      have : (x.length : Int) * j = ((x.length * j.toNat : Nat) : Int) := by
        rw [Int.natCast_mul, Int.toNat_of_nonneg (by omega)]
      rw [this]
      have : ((x.length * j.toNat : Nat) : Int) ≤ (sizeLine : Nat) := by exact_mod_cast h1
      have : ((sizeLine : Nat) : Int) < 2 ^ 60 := by exact_mod_cast hs
      omega
    have hj : 0 < j := by omega
    have e2 : (x.length : Int) ≤ (2 ^ 63 - 1) / j := by
      rw [Int.le_ediv_iff_mul_le hj]
      omega
    omega
  · unfold PySem.Builtin.Str.tooLong
    rw [decide_eq_false_iff_not]
    omega
theorem ex_at {F H : Hp} {a : Addr} {o : HO} (e : Ex F H) (h : F a = some o) : H a = some o := e a o h
theorem isIntMul_ok {i j : Int} (h : isIntMul i j = true) : IntMulOk i j := by
  unfold isIntMul at h
  simp only [Bool.or_eq_true, decide_eq_true_eq] at h
  rcases h with (h | h) | h
  · exact CMul.ok (.inl h)
  · exact CMul.ok (.inr h)
  · exact CMulW.ok h
theorem frzL {K : PySem.W.Frag} {F H : Hp} {l : List D} {xs : List V} {S : Set'} (z : D.frozenL l = true) (h : RepL K cm F H l xs S) : RepL K cm F H l xs no := RepL.frozen l z h
/-- a list's own object, whoever may change it -/
theorem rep_lst {K : PySem.W.Frag} {F H : Hp} {o : Ow} {l : List D} {x : V} {S : Set'} (ho : o ≠ .wr) (e : Ex F H) (h : Rep K cm F H (.lst o l) x S) : ∃ a xs, x = .ref a ∧ H a = some (.lst xs) ∧ RepL K cm F H l xs S := by
  cases o with
  | own =>
    simp only [Rep] at h
    obtain ⟨a, xs, T, rfl, q, _, ts, _, p⟩ := h
    exact ⟨a, xs, rfl, q, p.mono (Ex.refl _) l ts fun _ _ => rfl⟩
  | frz =>
    simp only [Rep] at h
    obtain ⟨a, xs, rfl, q, p⟩ := h
    exact ⟨a, xs, rfl, e _ _ q, p⟩
  | wr => exact absurd rfl ho
/-- a list to be read -/
theorem rep_sql {K : PySem.W.Frag} {F H : Hp} {o : Ow} {l : List D} {x : V} {S : Set'} (e : Ex F H) (h : Rep K cm F H (.lst o l) x S) : ∃ a xs, x = .ref a ∧ SqL K H a xs ∧ RepL K cm F H l xs S := by
  cases o with
  | own =>
    simp only [Rep] at h
    obtain ⟨a, xs, T, rfl, q, _, ts, _, p⟩ := h
    exact ⟨a, xs, rfl, SqL.of q, p.mono (Ex.refl _) l ts fun _ _ => rfl⟩
  | frz =>
    simp only [Rep] at h
    obtain ⟨a, xs, rfl, q, p⟩ := h
    exact ⟨a, xs, rfl, SqL.of (e _ _ q), p⟩
  | wr =>
    simp only [Rep] at h
    obtain ⟨a, xs, rfl, q, p⟩ := h
    exact ⟨a, xs, rfl, ex_l e q, p⟩
theorem rep_sqt {K : PySem.W.Frag} {F H : Hp} {l : List D} {x : V} {S : Set'} (e : Ex F H) (h : Rep K cm F H (.tup l) x S) : ∃ a xs, x = .ref a ∧ SqT K H a xs ∧ RepL K cm F H l xs S := by
  simp only [Rep] at h
  obtain ⟨a, xs, rfl, q, p⟩ := h
  exact ⟨a, xs, rfl, ex_t e q, p⟩
theorem cat_lst {K : PySem.W.Frag} {F H : Hp} {o o' : Ow} {l r : List D} {x y : V} {Sx Sy : Set'} {Q : VK} (ho : o ≠ .wr) (ho' : o' ≠ .wr) (e : Ex F H) (hx : Rep K cm F H (.lst o l) x Sx) (hy : Rep K cm F H (.lst o' r) y Sy)
    (g : D.frozenL l = true ∧ D.frozenL r = true ∧ l.length + r.length ≤ sizeLine) (q : PR K cm F H (.lst .own (l ++ r)) Q) : rCat x y H Q := by
  obtain ⟨a, xs, rfl, h1, p1⟩ := rep_lst ho e hx
  obtain ⟨b, ys, rfl, h2, p2⟩ := rep_lst ho' e hy
  exact ⟨a, b, xs, ys, rfl, rfl, h1, h2, by rw [p1.len, p2.len]; exact g.2.2, fun p hp => PR.lst e ((frzL g.1 p1).append (frzL g.2.1 p2)) q hp⟩
theorem op_binD (op : Operator) : OpR X (binaryOp op) (rD X.K cm (binD op)) := by
  intro pins s σ H x y v u Q I rx ry ⟨F, dx, dy, d, Sx, Sy, e, hx, hy, hg, q⟩
  unfold binD at hg
  split at hg
  · simp only [Rep] at hx hy
    subst hx hy
    cases hg
    exact op_add pins s σ H _ _ v u Q I rx ry ⟨_, _, rfl, rfl, q.int e⟩
  · simp only [Rep] at hx hy
    subst hx hy
    split at hg
    · rename_i h
      cases hg
      exact op_add_str pins s σ H _ _ v u Q I rx ry ⟨_, _, rfl, rfl, h, q.str e⟩
    · cases hg
  · split at hg
    · rename_i h
      simp only [Bool.and_eq_true, decide_eq_true_eq] at h
      cases hg
      exact op_cat pins s σ H _ _ v u Q I rx ry (cat_lst (by decide) (by decide) e hx hy ⟨h.1.1, h.1.2, h.2⟩ q)
    · cases hg
  · split at hg
    · rename_i h
      simp only [Bool.and_eq_true, decide_eq_true_eq] at h
      cases hg
      exact op_cat pins s σ H _ _ v u Q I rx ry (cat_lst (by decide) (by decide) e hx hy ⟨h.1.1, h.1.2, h.2⟩ q)
    · cases hg
  · split at hg
    · rename_i h
      simp only [Bool.and_eq_true, decide_eq_true_eq] at h
      cases hg
      exact op_cat pins s σ H _ _ v u Q I rx ry (cat_lst (by decide) (by decide) e hx hy ⟨h.1.1, h.1.2, h.2⟩ q)
    · cases hg
  · split at hg
    · rename_i h
      simp only [Bool.and_eq_true, decide_eq_true_eq] at h
      cases hg
      exact op_cat pins s σ H _ _ v u Q I rx ry (cat_lst (by decide) (by decide) e hx hy ⟨h.1.1, h.1.2, h.2⟩ q)
    · cases hg
  · simp only [Rep] at hx hy
    subst hx hy
    cases hg
    exact op_sub pins s σ H _ _ v u Q I rx ry ⟨_, _, rfl, rfl, q.int e⟩
  · simp only [Rep] at hx hy
    subst hx hy
    split at hg
    · rename_i h
      cases hg
      obtain ⟨t, rfl⟩ := rx
      obtain ⟨t', rfl⟩ := ry
      exact mul_int ⟨.int _, H, I.tok _, ⟨_, rfl⟩, q.int e⟩ (isIntMul_ok h)
    · cases hg
  · simp only [Rep] at hx hy
    subst hx hy
    split at hg
    · rename_i h
      cases hg
      obtain ⟨t, rfl⟩ := rx
      obtain ⟨t', rfl⟩ := ry
      exact SB.mul (mulOk_of h) fun t' k => ⟨.str _, H, I.tok _, ⟨_, rfl⟩, q.str e⟩
    · cases hg
  · split at hg
    · rename_i h
      simp only [Bool.and_eq_true, decide_eq_true_eq] at h
      cases hg
      obtain ⟨a, xs, rfl, h1, p1⟩ := rep_lst (by decide) e hx
      simp only [Rep] at hy
      subst hy
      exact op_rep pins s σ H _ _ v u Q I rx ry ⟨a, _, xs, rfl, rfl, h1, h.2.2.1, h.2.2.2, by rw [p1.len]; exact h.2.1, fun p hp => PR.lst e ((frzL h.1 p1).rep _) q hp⟩
    · cases hg
  · simp only [Rep] at hx hy
    subst hx hy
    split at hg
    · rename_i h
      cases hg
      obtain ⟨t, rfl⟩ := rx
      obtain ⟨t', rfl⟩ := ry
      exact floordiv_int h.1 ⟨.int _, H, I.tok _, ⟨_, rfl⟩, q.int e⟩ (.inl (PyProof.noPylong_of_log2 h.2))
    · cases hg
  · simp only [Rep] at hx hy
    subst hx hy
    split at hg
    · rename_i h
      cases hg
      exact op_modN pins s σ H _ _ v u Q I rx ry ⟨_, _, rfl, rfl, h, q.int e⟩
    · cases hg
  · simp only [Rep] at hx hy
    subst hx hy
    split at hg
    · rename_i h
      cases hg
      exact op_pow pins s σ H _ _ v u Q I rx ry ⟨_, _, rfl, rfl, h, q.int e⟩
    · cases hg
  · cases hg
/-- a comparison by data -/
def rC (K : PySem.W.Frag) (cm : Nat → Addr) (op : CmpOp) : R2 := fun x y H Q => ∃ F dx dy b Sx Sy, Ex F H ∧ Rep K cm F H dx x Sx ∧ Rep K cm F H dy y Sy ∧ cmpD op dx dy = some b ∧ Q (.bl b) H
theorem scal_of {K : PySem.W.Frag} {F H : Hp} {dx dy : D} {x y : V} {Sx Sy : Set'} {b : Bool} (hx : Rep K cm F H dx x Sx) (hy : Rep K cm F H dy y Sy) (h : scalD dx dy = some b) : scal x y = true ∧ decide (x = y) = b := by
  unfold scalD at h
  split at h <;> first
    | (cases h; done)
    | (simp only [Rep] at hx hy
       subst hx hy
       cases h
       exact ⟨rfl, by simp⟩)
theorem isNon_of {K : PySem.W.Frag} {F H : Hp} {d : D} {x : V} {S : Set'} (h : Rep K cm F H d x S) : decide (x = V.non) = isNon d := by
  cases d with
  | non => simp only [Rep] at h; subst h; rfl
  | bl b => simp only [Rep] at h; subst h; rfl
  | int i => simp only [Rep] at h; subst h; rfl
  | str z => simp only [Rep] at h; subst h; rfl
  | tup l => simp only [Rep] at h; obtain ⟨a, xs, rfl, _⟩ := h; rfl
  | lst o l => cases o <;> simp only [Rep] at h <;> (obtain ⟨a, xs, h⟩ := h; first | (obtain ⟨_, rfl, _⟩ := h; rfl) | (obtain ⟨rfl, _⟩ := h; rfl))
  | dct o l => cases o <;> simp only [Rep] at h <;> (obtain ⟨a, xs, h⟩ := h; first | (obtain ⟨_, rfl, _⟩ := h; rfl) | (obtain ⟨rfl, _⟩ := h; rfl))
  | ins o c l => cases o <;> simp only [Rep] at h <;> (obtain ⟨a, dx, xs, h⟩ := h; first | (obtain ⟨_, rfl, _⟩ := h; rfl) | (obtain ⟨rfl, _⟩ := h; rfl))
theorem op_cmpD (op : CmpOp) : OpR X (compareOp op) (rC X.K cm op) := by
  intro pins s σ H x y v u Q I rx ry ⟨F, dx, dy, b, Sx, Sy, e, hx, hy, hg, q⟩
  unfold cmpD at hg
  split at hg
  · obtain ⟨h1, h2⟩ := scal_of hx hy hg
    exact op_eq pins s σ H _ _ v u Q I rx ry ⟨h1, by rw [h2]; exact q⟩
  · cases hs : scalD dx dy with
    | none => rw [hs] at hg; cases hg
    | some c =>
      rw [hs] at hg
      cases hg
      obtain ⟨h1, h2⟩ := scal_of hx hy hs
      exact op_ne pins s σ H _ _ v u Q I rx ry ⟨h1, by rw [h2]; exact q⟩
  · simp only [Rep] at hx hy; subst hx hy; cases hg
    exact op_lt pins s σ H _ _ v u Q I rx ry ⟨_, _, rfl, rfl, q⟩
  · simp only [Rep] at hx hy; subst hx hy; cases hg
    exact op_le pins s σ H _ _ v u Q I rx ry ⟨_, _, rfl, rfl, q⟩
  · simp only [Rep] at hx hy; subst hx hy; cases hg
    exact op_gt pins s σ H _ _ v u Q I rx ry ⟨_, _, rfl, rfl, q⟩
  · simp only [Rep] at hx hy; subst hx hy; cases hg
    exact op_ge pins s σ H _ _ v u Q I rx ry ⟨_, _, rfl, rfl, q⟩
  · simp only [Rep] at hy; subst hy; cases hg
    exact op_isN pins s σ H _ _ v u Q I rx ry ⟨rfl, by rw [isNon_of hx]; exact q⟩
  · simp only [Rep] at hy; subst hy; cases hg
    exact op_notN pins s σ H _ _ v u Q I rx ry ⟨rfl, by rw [isNon_of hx]; exact q⟩
  · simp only [Rep] at hx hy; subst hx hy; cases hg
    exact op_in_str pins s σ H _ _ v u Q I rx ry ⟨_, _, rfl, rfl, q⟩
  · simp only [Rep] at hx hy; subst hx hy; cases hg
    exact op_notin_str pins s σ H _ _ v u Q I rx ry ⟨_, _, rfl, rfl, q⟩
  · cases hg
/-- truth by data -/
theorem truV_of {K : PySem.W.Frag} {F H : Hp} {d : D} {x : V} {S : Set'} {b : Bool} (e : Ex F H) (h : Rep K cm F H d x S) (t : truthD d = some b) : TruV K x H b := by
  unfold truthD at t
  split at t
  · simp only [Rep] at h; subst h; cases t; rfl
  · simp only [Rep] at h; subst h; cases t; rfl
  · simp only [Rep] at h; subst h; cases t; rfl
  · simp only [Rep] at h; subst h
    split at t
    · rename_i z
      cases t
      exact ⟨z, rfl⟩
    · cases t
  · obtain ⟨a, xs, rfl, q, p⟩ := rep_sqt e h
    cases t
    have hl := p.len
    exact .inr (.inl ⟨xs, q, by cases xs <;> cases ‹List D› <;> simp_all⟩)
  · obtain ⟨a, xs, rfl, q, p⟩ := rep_sql e h
    cases t
    have hl := p.len
    exact .inl ⟨xs, q, by cases xs <;> cases ‹List D› <;> simp_all⟩
  · cases t
end
end PI
/-! PI, part e: a def's promise, in a calm place and where an exception is handled; the law's own end. -/
namespace PI
open PySem PySem.Spec PyProof.Rows L2
/-- where a call stands: nothing is handled | the exception at p is handled -/
def Place (A : Around) (outer : List PySem.Env) (H : Hp) (s : Shared) : Option (Addr × Obj) → Prop
  | none => A.handled = none
  | some p => L2H.Hot1 A p ∧ L2H.PinOk outer H s p
structure RoomP (k : Nat) (A : Around) : Prop where
  rm : L2H.RoomH k A
  gd : A.guards = some []
structure FnP (P : Program) (w : World) (K : PySem.W.Frag) (mg : Str → Option Value) (base : Heap) (k : Nat) (f : Addr) (fd : FuncData) (ps : List Str) (sp : Bool → Sp) : Prop where
  len : ∀ c vs H Q E, sp c vs H Q E → vs.length = ps.length
  run : ∀ (hot : Option (Addr × Obj)) (A : Around) (outer : List PySem.Env) (s : Shared) (H : Hp) (args : Args) (us : List Value) (vs : List V) (Q : VK) (E : XK),
    RoomP k A → Place A outer H s hot → Env0 P w K mg base A outer s H → BindsTo s fd args (ps.zip us) → Vals vs us → sp hot.isNone vs H Q E →
    codeAny (model P w) A (.call (.ref f) args) (CR (L2N.CX P w) outer P w H s Q E) s
theorem RoomP.mono {j k : Nat} {A : Around} (r : RoomP k A) (h : j ≤ k) : RoomP j A := ⟨r.rm.mono h, r.gd⟩
theorem RoomP.deeper {k : Nat} {A : Around} (r : RoomP (k + 1) A) (env : PySem.Env) : RoomP k (A.deeper env) := ⟨r.rm.deeper env, r.gd⟩
/-- the body's context -/
def cxP (P : Program) (w : World) (K : PySem.W.Frag) (mg : Str → Option Value) (base : Heap) (N : List Str) (qual : Str) (scope : Scope) (f : Addr) (cd : Value) (A : Around) (outer : List PySem.Env) (s : Shared) (H : Hp) (E : XK) :
    Option (Addr × Obj) → Cx
  | none => cxOf (L2N.CX P w) P w K mg base N qual scope f cd A outer s H E
  | some p => L2H.cxH (L2N.CX P w) P w K mg base N qual scope f cd A outer s H E p
section
variable {P : Program} {w : World} {K : PySem.W.Frag} {mg : Str → Option Value} {base : Heap} {N ps : List Str} {k : Nat} {f : Addr} {sp : Bool → Sp}
theorem fnP_of {name qual : Str} {params : Arguments} {body : List Stmt} {scope : Scope} {dV kV doc pm cdv ct oc : Value} {an od : Option Addr} {osl : Array (Option Value)}
    (lk : K.lookup f = some ⟨oc, od, .func (PySem.W.fnOf name qual params body scope dV kV doc pm an cdv ct), osl⟩) (hcd : PySem.W.codeIn K cdv qual = true) (S : FnScope N ps scope)
    (len : ∀ c vs H Q E, sp c vs H Q E → vs.length = ps.length)
    (hbody : ∀ (hot : Option (Addr × Obj)) (A : Around) (outer : List PySem.Env) (s : Shared) (H : Hp) (vs : List V) (Q : VK) (E : XK), RoomP k (A.deeper (envOfC qual scope s.heap.objs.size f cdv)) →
      Place A outer H s hot → sp hot.isNone vs H Q E → ∃ t, PSs (cxP P w K mg base N qual scope f cdv A outer s H E hot) body t ∧ t { nx := fun _ H' => Q .non H', rt := Q } (start N vs) H) :
    FnP P w K mg base (k + 1) f (PySem.W.fnOf name qual params body scope dV kV doc pm an cdv ct) ps sp := by
  refine ⟨len, fun hot A outer s H args us vs Q E hr hp e0 hb r hsp => ?_⟩
  have hl := len _ _ _ _ _ hsp
  have KX : K.In s.heap := e0.mod.kin.keeps fun b o e => (e0.bs b o e).1
  have lim : s.heap.NoLimit := e0.mod.nolimit.keeps fun b o e => (e0.bs b o e).1
  have hkind : ∀ y ∈ ps.zip us, scope.names.lookup y.1 = some .local ∨
      (scope.names.lookup y.1 = some .cell ∧ ((cellsFrom (s.heap.objs.size + 1) scope.names []).lookup y.1).isSome = true) := by
    rintro ⟨n, v⟩ hy
    rcases S.par n (List.of_mem_zip hy).1 with q | q
    · exact .inl q
    · exact .inr ⟨q, PySem.W.cellsFrom_some _ _ _ (.inl q)⟩
  refine codeAny_call_function hr.rm.depth (KX _ _ lk) rfl S.co S.gen rfl (PySem.W.codeRec_of KX hcd) (hb _ _ _ _ (wpAny_newFunctionEnv_cells S.kind hkind fun env he s1 x => ?_))
  subst he
  refine ⟨lim.keeps x.toInCall.keep, codeAny_func ?_⟩
  obtain ⟨t, ht, hq⟩ := hbody hot A outer s H vs Q E (hr.deeper _) hp hsp
  have I : Inv (cxP P w K mg base N qual scope f cdv A outer s H E hot) [] (start N vs) H s1 := by
    cases hot with
    | none => exact inv_start S hp e0 hl r x
    | some p => exact L2H.inv_startH S hp.2 e0 hl r x
  have end1 : ∀ {σ' : L2.St} {H' : Hp} {s' : Shared} {v : V} {u : Value}, Inv (cxP P w K mg base N qual scope f cdv A outer s H E hot) [] σ' H' s' → RelV v u → Q v H' → CE outer P w H s Q u s' := by
    intro σ' H' s' v u J rv q
    cases hot with
    | none => exact ⟨v, H', J.os, J.bare, J.base, J.hok, rv, q⟩
    | some p => exact ⟨v, H', J.os, J.bare, J.base, J.hok, rv, q⟩
  have run1 := ht.run [] s1 (start N vs) H _ I hq
  have hx : (cxP P w K mg base N qual scope f cdv A outer s H E hot).xe = (cxOf (L2N.CX P w) P w K mg base N qual scope f cdv A outer s H E).xe := by cases hot <;> rfl
  have hA : (cxP P w K mg base N qual scope f cdv A outer s H E hot).A = A.deeper (envOfC qual scope s.heap.objs.size f cdv) := by cases hot <;> rfl
  have hE : (cxP P w K mg base N qual scope f cdv A outer s H E hot).env = envOfC qual scope s.heap.objs.size f cdv := by cases hot <;> rfl
  have hP : (cxP P w K mg base N qual scope f cdv A outer s H E hot).prog = P := by cases hot <;> rfl
  have hW : (cxP P w K mg base N qual scope f cdv A outer s H E hot).w = w := by cases hot <;> rfl
  rw [hx, hA, hE, hP, hW] at run1
  refine wpAny_mono run1 (fun fl s' hs => ?_) fun e s' hs => hs
  cases fl with
  | ret u =>
    obtain ⟨v, σ', H', J, rv, q⟩ := hs
    exact end1 J rv q
  | next =>
    obtain ⟨σ', H', J, q⟩ := hs
    exact end1 (v := V.non) (u := Value.none) J rfl q
  | brk =>
    obtain ⟨_, _, _, q⟩ := hs
    cases hot <;> exact False.elim q
  | cont =>
    obtain ⟨_, _, _, q⟩ := hs
    cases hot <;> exact False.elim q
end
/-- whether the context is calm or bears the handled exception -/
def HotIs (X : Cx) : Bool → Prop
  | true => X.calm = true
  | false => L2H.HotC X
section
variable {X : Cx} {k : Nat} {f : Addr} {fd : FuncData} {ps : List Str} {sp : Bool → Sp} {pins : List (Addr × Obj)} {σ : L2.St} {H : Hp} {s : Shared} {Q : VK} {us ds : List Value} {vs dvs : List V} {E : XK} {c : Bool}
/-- the callee runs -/
theorem run_fnP (F : FnP X.prog X.w X.K X.mg X.base k f fd ps sp) (hr : RoomP k X.A) (hc : HotIs X c) (hb : Binds X.K fd ps ds) (hd : Vals dvs ds) (hx : PassesAt (L2N.CX X.prog X.w) X σ E)
    (I : Inv X pins σ H s) (r : Vals vs us) (h : sp c (vs ++ dvs) H Q E) : wpAny (model X.prog X.w) X.A (call (.ref f) us) (EP X pins σ Q) X.xe s := by
  have r2 : Vals (vs ++ dvs) (us ++ ds) := r.append hd
  have hl : (us ++ ds).length = ps.length := r2.length.symm.trans (F.len _ _ _ _ _ h)
  have b := hb s us I.kIn hl
  have hcode : codeAny (model X.prog X.w) X.A (.call (.ref f) ⟨us, []⟩) (CR (L2N.CX X.prog X.w) X.stack X.prog X.w H s Q E) s := by
    cases c with
    | true => exact F.run none X.A X.stack s H ⟨us, []⟩ (us ++ ds) (vs ++ dvs) Q E hr (I.ok.hd hc) I.env0 b r2 h
    | false =>
      obtain ⟨p, hot, hp⟩ := hc
      have P1 := I.pin p (List.mem_append_left _ hp)
      have hpin : L2H.PinOk X.stack H s p := ⟨P1.1, P1.2.1, fun hm => by
        rcases List.mem_cons.mp (I.stkSub p.1 hm) with z | z
        · exact P1.2.2.1 z
        · exact P1.2.2.2.1 z, P1.2.2.2.2⟩
      exact F.run (some p) X.A X.stack s H ⟨us, []⟩ (us ++ ds) (vs ++ dvs) Q E hr ⟨hot, hpin⟩ I.env0 b r2 h
  refine wpAny_call (codeAny_mono hcode fun r s' hq => ?_)
  match r, hq with
  | .error e, hq => exact hx pins H s e s' I hq
  | .ok (.ret u), hq => exact I.after hq
  | .ok .next, hq => exact False.elim hq
  | .ok .brk, hq => exact False.elim hq
  | .ok .cont, hq => exact False.elim hq
end
end PI
/-! PI, part f: what a result asks; sequences. -/
namespace PI
open PySem PySem.Spec PyProof.Rows L2
section
variable (K : PySem.W.Frag) (cm : Nat → Addr) (px : Px) (W : WX)
def RQ {α β : Type} (Rp : Hp → Hp → α → β → Set' → Prop) (r : R α) (F H : Hp) (S : Set') (σ : L2.St) (Q : β → Hp → Prop) : Prop := match r with
  | .ok a v => ∀ x F' H' S1 S2, Tr F H S F' H' (un S1 S2) → Dj S1 S2 → SRs K cm px F' H' v σ S1 → Rp F' H' a x S2 → Q x H'
  | .exc c fs v => ∀ F' H' S1 dd, Tr F H S F' H' S1 → SRs K cm px F' H' v σ S1 → XR K cm F' H' dd fs → W (.ref (cm c)) dd σ H'
  | .err => False
/-- the reading of what the interpreter does -/
def tR {α β : Type} (Rp : Hp → Hp → α → β → Set' → Prop) (ev : Env → R α) : L2.St → Hp → (β → Hp → Prop) → Prop := fun σ H Q =>
  ∃ F S v, Gd F H S ∧ SRs K cm px F H v σ S ∧ RQ K cm px W Rp (ev v) F H S σ Q
end
def rpB : Hp → Hp → Bool → Bool → Set' → Prop := fun _ _ a b _ => b = a
def rpO : Hp → Hp → Option Int → Option Int → Set' → Prop := fun _ _ a b _ => b = a
/-- arguments: data of their own | what stands in a slot -/
def ArR (K : PySem.W.Frag) (cm : Nat → Addr) (σ : L2.St) (F H : Hp) : List Ar → List V → Set' → Prop
  | [], vs, _ => vs = []
  | .d x :: l, vs, S => ∃ u r S1 S2, vs = u :: r ∧ Sub S1 S ∧ Sub S2 S ∧ Dj S1 S2 ∧ Rep K cm F H x u S1 ∧ ArR K cm σ F H l r S2
  | .v i :: l, vs, S => ∃ u r, vs = u :: r ∧ σ[i]? = some (some u) ∧ ArR K cm σ F H l r S
section
variable {K : PySem.W.Frag} {cm : Nat → Addr} {px : Px} {W : WX} {α β γ δ : Type} {Rp : Hp → Hp → α → β → Set' → Prop} {Rc : Hp → Hp → γ → δ → Set' → Prop} {F H F1 H1 F2 H2 : Hp} {S S1 S2 S3 : Set'} {σ : L2.St} {Q : δ → Hp → Prop}
theorem RQ.bindI {r : R α} {g : α → Env → R γ} {Q' : β → Hp → Prop} (h : RQ K cm px W Rc (r.bind g) F H S σ Q) (t : Tr F H S F1 H1 S1)
    (hok : ∀ a v y F2 H2 S3 S4, r = .ok a v → RQ K cm px W Rc (g a v) F H S σ Q → Tr F1 H1 S1 F2 H2 (un S3 S4) → Dj S3 S4 → SRs K cm px F2 H2 v σ S3 → Rp F2 H2 a y S4 → Q' y H2) : RQ K cm px W Rp r F1 H1 S1 σ Q' := by
  cases r with
  | ok a v => exact fun y F2 H2 S3 S4 u j sr rp => hok a v y F2 H2 S3 S4 rfl h u j sr rp
  | exc c fs v => exact fun F2 H2 S3 dd u sr xr => h F2 H2 S3 dd (t.trans u) sr xr
  | err => exact h
/-- an expression whose value is of no further use for the slots -/
theorem RQ.imp {r : R γ} {Q Q' : δ → Hp → Prop} (h : RQ K cm px W Rc r F H S σ Q) (k : ∀ x H, Q x H → Q' x H) : RQ K cm px W Rc r F H S σ Q' := by
  cases r with
  | ok a v => exact fun y F2 H2 S3 S4 u j sr rp => k _ _ (h y F2 H2 S3 S4 u j sr rp)
  | exc c fs v => exact h
  | err => exact h
theorem RQ.fin {Q : VK} {d : D} {v : Env} (h : RQ K cm px W (Rep K cm) (.ok d v) F H S σ Q) (t : Tr F H S F2 H2 S3) (sr : SRs K cm px F2 H2 v σ S3) : PR K cm F2 H2 d Q := by
  intro x F' H' S' u rp
  have b := u.beside t.gd (no_dj _)
  refine h x F' H' S3 S' (t.trans ⟨u.ex, b.2.1.un u.gd, fun a z => z.elim .inl fun z => ?_, fun a o e n => u.keep a o e fun z => z, fun a o e => ?_⟩) b.2.2.symm (sr.mono u.ex b.1 (Sub.refl _)) rp
  · rcases u.old a z with y | y
    · exact y.elim
    · exact .inr y
  · rcases u.nf a o e with y | y | y
    · exact .inl y
    · exact y.elim
    · exact .inr (.inr y)
/-- the rest of an evaluation, from a later state -/
theorem RQ.later {r : R γ} (h : RQ K cm px W Rc r F H S σ Q) (t : Tr F H S F1 H1 S1) : RQ K cm px W Rc r F1 H1 S1 σ Q := by
  cases r with
  | ok a v => exact fun y F2 H2 S3 S4 u j sr rp => h y F2 H2 S3 S4 (t.trans u) j sr rp
  | exc c fs v => exact fun F2 H2 S3 dd u sr xr => h F2 H2 S3 dd (t.trans u) sr xr
  | err => exact h
/-- where the value is not touched by what follows -/
theorem Rep.stay {d : D} {x : V} {S4 : Set'} (r : Rep K cm F1 H1 d x S4) (t : Tr F1 H1 S1 F2 H2 S3) (g : Gd F1 H1 S4) (j : Dj S1 S4) : Rep K cm F2 H2 d x S4 ∧ Gd F2 H2 S4 ∧ Dj S3 S4 := by
  have b := t.beside g j
  exact ⟨r.mono t.ex d (Sub.refl _) b.1, b.2⟩
end
end PI
/-! PI, part g: the syntax by its look. -/
namespace PI
open PySem PySem.Spec PyProof.Rows L2
def notStar : Expr → Bool
  | .Starred .. => false
  | _ => true
def notComp : Expr → Bool
  | .ListComp .. | .SetComp .. | .DictComp .. => false
  | _ => true
def plainTest : Expr → Bool
  | .UnaryOp .Not _ _ | .BoolOp .. | .IfExp .. | .Compare .. => false
  | _ => true
def notSlice : Expr → Bool
  | .Slice .. => false
  | _ => true
def notSet : Expr → Bool
  | .Set .. => false
  | _ => true
def notCall : Expr → Bool
  | .Call .. => false
  | _ => true
section
variable {env : PySem.Env}
theorem star_cons {e : Expr} {es : List Expr} (h : notStar e = true) : starEach (e :: es) env = (false, eval e env) :: starEach es env := by
  cases e <;> first | (simp [notStar] at h; done) | rfl
theorem star_plain {pos : Pos} : ∀ {es : List Expr}, es.all notStar = true → (backTo pos (starEach es env)).any (·.1) = false
  | [], _ => rfl
  | e :: es, h => by
    rw [List.all_cons, Bool.and_eq_true] at h
    rw [star_cons h.1]
    show (false || (backTo pos (starEach es env)).any (·.1)) = false
    rw [star_plain h.2]
    rfl
theorem swaps_no {e : Expr} {t : Option Expr} {l : Nat} (h : notComp e = true) : swapsWith e t l env = pure false := by
  cases e <;> first | (simp [notComp] at h; done) | rfl
theorem test_plain {e : Expr} (h : plainTest e = true) (whole : Sem Value) : isTrue e env whole = (do
    let v ← whole
    standAt e.pos
    holding [v] (truthy v)) := by
  cases e with
  | UnaryOp op a p => cases op <;> first | (simp [plainTest] at h; done) | rfl
  | _ => first | (simp [plainTest] at h; done) | rfl
theorem ix_plain {b : Expr} (h : notSlice b = true) : PlainIx b := fun o i => by
  cases b <;> first | (simp [notSlice] at h; done) | rfl
theorem set_plain {e : Expr} (h : notSet e = true) (x : Value) : foldedSetIterable e env x = pure x := by
  cases e <;> first | (simp [notSet] at h; done) | rfl
theorem base_plain {o : Expr} {f : Str} (h : notCall o = true) : attributeBase o f env (eval o env) = eval o env := by
  cases o <;> first | (simp [notCall] at h; done) | rfl
theorem few_plain {pos : Pos} {es : List Expr} (h : es.all notStar = true) (hl : es.length < 30) : ((backTo pos (starEach es env)).all (fun x => !x.1) && (backToKw pos (keywordEach [] env)).all (fun x => x.1.isSome)
      && decide (es.length + ([] : List Keyword).length + (if ([] : List Keyword).isEmpty then 0 else 1) < 30)) = true := by
  have h1 : (backTo pos (starEach es env)).all (fun x => !x.1) = true := by
    have z := star_plain (env := env) (pos := pos) h
    rw [List.all_eq_true]
    intro x hx
    rw [List.any_eq_false] at z
    simpa using z x hx
  have h2 : (backToKw pos (keywordEach [] env)).all (fun x => x.1.isSome) = true := rfl
  rw [h1, h2]
  simp
  omega
end
/-- a written text is read on the way -/
def tk1 : Expr → Bool
  | .Constant (.str _) _ _ => true
  | .BinOp a _ b _ => tk1 a || tk1 b
  | _ => false
structure Glo where
  fs : List (Str × Nat)
  cs : List (Str × Nat)
  ks : List (Str × Nat)
  gc : Bool
structure Sx where
  N : List Str
  sc : Scope
  g : Glo
def visB : Option NameKind → Bool
  | some .local | some .cell | some .free => true
  | _ => false
def stoB : Option NameKind → Bool
  | some .local | some .cell => true
  | _ => false
def Sx.nm (x : Sx) (i : Nat) (s : Str) : Bool := decide (x.N[i]? = some s) && visB (x.sc.names.lookup s) && !(s == ("__debug__" : Str)) && !(s == ("__classdict__" : Str))
def Sx.st (x : Sx) (i : Nat) (s : Str) : Bool := decide (x.N[i]? = some s) && stoB (x.sc.names.lookup s)
def Sx.gl (x : Sx) (s : Str) : Bool := decide (x.sc.names.lookup s = some .globalImplicit) && !(s == ("__debug__" : Str)) && !(s == ("__name__" : Str))
def biN : Bi → Str
  | .len => "len" | .int => "int" | .str => "str" | .abs => "abs" | .max => "max" | .min => "min" | .gcd => "gcd" | .repr => "repr" | .tuple => "tuple" | .list => "list"
def bmN : Bm → Str
  | .find => "find" | .partition => "partition" | .join => "join"
def tyN : Ty → Str
  | .int => "int" | .bool => "bool" | .str => "str" | .list => "list" | .tuple => "tuple"
def isTgs (x : Sx) : List Nat → List Expr → Bool
  | [], [] => true
  | i :: is, .Name s _ :: es => x.st i s && isTgs x is es
  | _, _ => false
def isTg (x : Sx) : Tg → Expr → Bool
  | .nm i, .Name s _ => x.st i s
  | .tp is, .Tuple es _ _ => isTgs x is es
  | _, _ => false
def ownOf (N : List Str) (own : List Nat) : List (Str × Nat) := own.filterMap fun i => (N[i]?).map (·, i)
/-- class names in a written tuple -/
def isCls (x : Sx) : List Nat → List Expr → Bool
  | [], [] => true
  | c :: cs, .Name s _ :: es => x.gl s && decide (x.g.cs.lookup s = some c) && isCls x cs es
  | _, _ => false
mutual
def isE (x : Sx) : E → Expr → Bool
  | .non, e => match e with | .Constant .none _ _ => true | _ => false
  | .bl b, e => match e with | .Constant (.bool c) _ _ => b == c | _ => false
  | .int i, e => match e with | .Constant (.int j) _ _ => decide (i = j) | _ => false
  | .str z, e => match e with | .Constant (.str y) _ _ => decide (z = y) | _ => false
  | .var i, e => match e with | .Name s _ => x.nm i s | _ => false
  | .glob k, e => match e with | .Name s _ => x.gl s && decide (x.g.ks.lookup s = some k) | _ => false
  | .bin op a b, e => match e with | .BinOp l o r _ => decide (op = o) && isE x a l && isE x b r | _ => false
  | .neg a, e => match e with | .UnaryOp .USub l _ => isE x a l | _ => false
  | .cmp op a b, e => match e with | .Compare l [o] [r] _ => decide (op = o) && notSet r && isE x a l && isE x b r | _ => false
  | .andE a b, e => match e with | .BoolOp .And (l :: m :: r) p => isE x a l && isE x b (.BoolOp .And (m :: r) p) | _ => false
  | .orE a b, e => match e with | .BoolOp .Or (l :: m :: r) p => isE x a l && isE x b (.BoolOp .Or (m :: r) p) | _ => false
  | .one a, e => match e with | .BoolOp _ [l] _ => isE x a l | _ => false
  | .notE a, e => match e with | .UnaryOp .Not l _ => isE x a l | _ => false
  | .ife c a b, e => match e with | .IfExp t l r _ => isT x c t && isE x a l && isE x b r | _ => false
  | .tup es, e => match e with | .Tuple l _ _ => isEs x es l | _ => false
  | .lst es, e => match e with | .List l _ => isEs x es l | _ => false
  | .ixv i b, e => match e with | .Subscript (.Name s _) k _ => x.nm i s && notSlice k && isE x b k | _ => false
  | .idx a b, e => match e with | .Subscript l k _ => notSlice k && isE x a l && isE x b k | _ => false
  | .slc a lo hi, e => match e with | .Subscript l (.Slice s t none _) _ => isE x a l && isO x lo s && isO x hi t | _ => false
  | .call f es, e => match e with | .Call (.Name s _) l [] _ => x.gl s && decide (x.g.fs.lookup s = some f) && isEs x es l | _ => false
  | .biv b i, e => match e with | .Call (.Name s _) [.Name t _] [] _ => x.gl s && decide (s = biN b) && x.nm i t && decide (b ≠ .gcd) | _ => false
  | .bi b es, e => match e with | .Call (.Name s _) (a :: l) [] _ => x.gl s && decide (s = biN b) && isEs x es (a :: l) && (decide (b ≠ .gcd) || x.g.gc) | _ => false
  | .bm m o es, e => match e with | .Call (.Attribute l n ap) (a :: r) [] cp => decide (n = bmN m) && notCall l && (ap.endLine == cp.line) && decide ((a :: r).length < 30) && isE x o l && isEs x es (a :: r) | _ => false
  | .lc own body t src cond, e => match e with
    | .ListComp elt [⟨tg, iter, ifs, 0⟩] scope _ => blkC x.N x.sc scope (ownOf x.N own) && decide ((ownOf x.N own).map (·.2) = own) && (tgS t).all own.contains && notSet iter && isTg { x with sc := scope } t tg && isI x src iter && isE { x with sc := scope } body elt && isC { x with sc := scope } cond ifs
    | _ => false
  | .fst a z c, e => match e with | .JoinedStr [.FormattedValue l (-1) none _, .Constant (.str y) _ _, .FormattedValue r (-1) none _] _ => isE x a l && decide (z = y) && isE x c r | _ => false
  | .lstT e es o y z, a => match a with
    | .List (h :: t) _ => notStar h && tk1 h && isE x e h && isEs x es t.dropLast && (match t.getLast? with
      | some (.Call (.Attribute l n ap) [.Constant (.str u) _ _, .Constant (.str w) _ _] [] cp) => decide (n = ("replace" : Str)) && notCall l && (ap.endLine == cp.line) && isE x o l && decide (y = u) && decide (z = w) && !(y == z)
      | _ => false)
    | _ => false
  | .isi i t, e => match e with | .Call (.Name s _) [.Name v _, .Name u _] [] _ => x.gl s && decide (s = ("isinstance" : Str)) && x.nm i v && x.gl u && decide (u = tyN t) | _ => false
  | .isg a t, e => match e with | .Call (.Name s _) [l, .Name u _] [] _ => x.gl s && decide (s = ("isinstance" : Str)) && notStar l && isE x a l && x.gl u && decide (u = tyN t) | _ => false
  | .isx i cs, e => match e with
    | .Call (.Name s _) [.Name v _, .Tuple l _ _] [] _ => x.gl s && decide (s = ("isinstance" : Str)) && x.nm i v && isCls x cs l && decide (cs.length ≤ 1000)
    | .Call (.Name s _) [.Name v _, .Name u p] [] _ => x.gl s && decide (s = ("isinstance" : Str)) && x.nm i v && isCls x cs [.Name u p]
    | _ => false
  | .isv i, e => match e with | .Call (.Name s _) [.Name v _, .Name u _] [] _ => x.gl s && decide (s = ("isinstance" : Str)) && x.nm i v && x.gl u && decide (u = ("ValueError" : Str)) | _ => false
  | .xfld i f, e => match e with | .Attribute (.Name v _) n _ => x.nm i v && decide (f = n) | _ => false
def isT (x : Sx) : T → Expr → Bool
  | .andT a b, e => match e with | .BoolOp .And (l :: m :: r) p => isT x a l && isT x b (.BoolOp .And (m :: r) p) | _ => false
  | .orT a b, e => match e with | .BoolOp .Or (l :: m :: r) p => isT x a l && isT x b (.BoolOp .Or (m :: r) p) | _ => false
  | .oneT a, e => match e with | .BoolOp _ [l] _ => isT x a l | _ => false
  | .notT a, e => match e with | .UnaryOp .Not l _ => isT x a l | _ => false
  | .cmpT op a b, e => match e with | .Compare l [o] [r] _ => decide (op = o) && notSet r && isE x a l && isE x b r | _ => false
  | .ev e', e => plainTest e && isE x e' e
def isEs (x : Sx) : Es → List Expr → Bool
  | .nil, l => l.isEmpty
  | .cons e es, l => match l with | a :: r => notStar a && isE x e a && isEs x es r | _ => false
  | .vcons i es, l => match l with | .Name s _ :: r => x.nm i s && isEs x es r | _ => false
def isO (x : Sx) : Op → Option Expr → Bool
  | .none, o => o.isNone
  | .some e, o => match o with | some a => isE x e a | none => false
def isI (x : Sx) : It' → Expr → Bool
  | .ov e, a => isE x e a
  | .rng es, a => match a with | .Call (.Name s _) l [] _ => x.gl s && decide (s = ("range" : Str)) && isEs x es l | _ => false
def isC (x : Sx) : Cd → List Expr → Bool
  | .none, l => l.isEmpty
  | .some t, l => match l with | [c] => isT x t c | _ => false
end
end PI
/-! PI, part h: each expression does what the interpreter says. -/
namespace PI
open PySem PySem.Spec PyProof.Rows L2
/-- a call's end as the callee's caller wants it -/
def maskB : List Bool → Env → Env
  | _, [] => []
  | b, d :: o => (if b.headD false then none else d) :: maskB b.tail o
def CQ (K : PySem.W.Frag) (cm : Nat → Addr) (bv : List Bool) (r : Cr) (F H : Hp) (S : Set') (vs : List V) (Q : VK) (E : XK) : Prop := match r with
  | .ret d o => ∀ x F' H' S1 S2, Tr F H S F' H' (un S1 S2) → Dj S1 S2 → SRs K cm px0 F' H' (maskB bv o) (vs.map some) S1 → Rep K cm F' H' d x S2 → Q x H'
  | .exc c fs o => ∀ F' H' S1 dd, Tr F H S F' H' S1 → SRs K cm px0 F' H' (maskB bv o) (vs.map some) S1 → XR K cm F' H' dd fs → E (.ref (cm c)) dd H'
  | .err => False
/-- the promise of the def f -/
def spP (K : PySem.W.Frag) (cm : Nat → Addr) (C : PI.Ctx) (f : Nat) : Bool → Sp := fun c vs H Q E => ∃ F S ds, Gd F H S ∧ RepL K cm F H ds vs S ∧ CQ K cm (C.bv f) (C.cf c f ds) F H S vs Q E
structure FnAt (X : Cx) (k : Nat) (cm : Nat → Addr) (C : PI.Ctx) (s : Str) (f : Nat) : Prop where
  ex : ∃ a fd ps, X.mg s = some (.ref a) ∧ PySem.W.keepIn X.K (.ref a) = true ∧ Binds X.K fd ps [] ∧ FnP X.prog X.w X.K X.mg X.base k a fd ps (spP X.K cm C f)
def bltNames : List Str := ["len", "int", "str", "abs", "max", "min", "repr", "tuple", "list", "range", "isinstance", "bool", "ValueError"]
/-- what is known of a class -/
structure XCls (K : PySem.W.Frag) (cm : Nat → Addr) (C : PI.Ctx) (cl : List Nat) (c : Nat) : Prop where
  ec : ExcC K (cm c)
  xf : XfC K (cm c)
  fld : ∀ f ∈ C.xf c, PySem.W.findIn K (.ref (cm c)) f = some none
  sub : ∀ c' ∈ cl, PySem.W.kitOne K (.ref (cm c)) (.ref (cm c')) = some (C.sub c c')
  exm : ∀ c' ∈ cl, PySem.W.exmOne K (.ref (cm c)) (.ref (cm c')) = some (C.sub c c')
  ve : PySem.W.kitOne K (.ref (cm c)) (.type "ValueError") = some true
structure HasX (cm : Nat → Addr) (C : PI.Ctx) (cl : List Nat) (X : Cx) (c : Nat) (a : Addr) (dd : Option Addr) (oe : Obj) : Prop where
  pn : (a, oe) ∈ X.pn
  cls : oe.cls = .ref (cm c)
  dict : oe.dict = dd
  data : ∃ vs, oe.data = .fields vs
  xc : XCls X.K cm C cl c
structure Wd (cm : Nat → Addr) (px : Px) (W : WX) (x : Sx) (C : PI.Ctx) (X : Cx) : Prop where
  names : X.N = x.N
  nd : X.N.Nodup
  vis : ∀ s, visB (x.sc.names.lookup s) = true → Vis X.env.scope s
  fre : ∀ s, x.sc.names.lookup s = some .cell ∨ x.sc.names.lookup s = some .free → X.env.scope.names.lookup s = some .cell ∨ X.env.scope.names.lookup s = some .free
  sto : ∀ s, stoB (x.sc.names.lookup s) = true → Loc X.env.scope s ∧ (X.fn s = true ∨ X.env.scope.names.lookup s = some .local)
  glb : ∀ s, x.sc.names.lookup s = some .globalImplicit → Gl X s
  hot : HotIs X C.calm
  room : ∃ k, RoomP k X.A ∧ ∀ s f, x.g.fs.lookup s = some f → FnAt X k cm C s f
  tk : L2N.Takes X W
  dig : X.base.NoDigits
  blt : ∀ s ∈ bltNames, X.mg s = none
  gcd : x.g.gc = true → X.mg "gcd" = some (.builtin "math.gcd")
  cls : ∀ s c, x.g.cs.lookup s = some c → X.mg s = some (.ref (cm c))
  cur : ∀ j c fs, C.cur = some (j, c, fs) → ∃ a dd oe, px.ex = some (j, a, dd, fs) ∧ HasX cm C (x.g.cs.map (·.2)) X c a dd oe
  cur0 : C.cur = none → px.ex = none
  pxc : ∀ i, C.pr i = false → PxNe px i
  con : ∀ s k, x.g.ks.lookup s = some k → ∃ v u, X.mg s = some u ∧ RelV v u ∧ ∀ F H, Rep X.K cm F H (C.gv k) v no
theorem PE_imp {X : Cx} {e : Expr} {t t' : TE} (h : PE X e t) (k : ∀ σ H Q, t' σ H Q → t σ H Q) : PE X e t' := ⟨fun pins s σ H Q I q => h.run pins s σ H Q I (k σ H Q q)⟩
theorem PT_imp {X : Cx} {e : Expr} {t t' : TT} (h : PT X e t) (k : ∀ σ H Q, t' σ H Q → t σ H Q) : PT X e t' := ⟨fun pins s σ H Q I q => h.run pins s σ H Q I (k σ H Q q)⟩
theorem PW_imp {X : Cx} {e : Expr} {t t' : TT} (h : PW X e t) (k : ∀ σ H Q, t' σ H Q → t σ H Q) : PW X e t' := ⟨fun wh pins s σ H Q I q => h.run wh pins s σ H Q I (k σ H Q q)⟩
theorem PA_imp {X : Cx} {e : List Expr} {t t' : TA} (h : PA X e t) (k : ∀ σ H Q, t' σ H Q → t σ H Q) : PA X e t' := ⟨fun pos pins s σ H Q I q => h.run pos pins s σ H Q I (k σ H Q q)⟩
section
variable {K : PySem.W.Frag} {cm : Nat → Addr} {px : Px} {W : WX}
/-- the reading of the interpreter, of an expression -/
abbrev tD (K : PySem.W.Frag) (cm : Nat → Addr) (px : Px) (W : WX) (ev : Env → R D) : TE := tR K cm px W (Rep K cm) ev
abbrev tBo (K : PySem.W.Frag) (cm : Nat → Addr) (px : Px) (W : WX) (ev : Env → R Bool) : TT := tR K cm px W rpB ev
/-- arguments -/
def tAr (K : PySem.W.Frag) (cm : Nat → Addr) (px : Px) (W : WX) (ev : Env → R (List Ar)) : TA := fun σ H Q => tR K cm px W (ArR K cm σ) ev σ H Q
variable {X : Cx} {a b c : Expr} {pos : Pos} {ea eb ec : Env → R D} {x : Sx} {C : PI.Ctx}
theorem den_c {d : D} {vv : V} (h : PE X a (tC vv)) (r : ∀ F H, Rep X.K cm F H d vv no) : PE X a (tD X.K cm px W fun v => .ok d v) := by
  refine PE_imp h fun σ H Q ⟨F, S, v, g, sr, q⟩ => ?_
  exact q vv F H S no ((Tr.refl g).sub (un_sub (Sub.refl _) (no_sub _)) |>.sub (Sub.refl _)) (dj_no _) sr (r F H)
theorem den_var {i : Nat} (h : PE X a (tVar i)) : PE X a (tD X.K cm px W fun v => rdV i v) := by
  refine PE_imp h fun σ H Q ⟨F, S, v, g, sr, q⟩ => ?_
  have q : RQ X.K cm px W (Rep X.K cm) (rdV i v) F H S σ Q := q
  unfold rdV at q
  cases e : getV v i with
  | none => rw [e] at q; exact q.elim
  | some d =>
    rw [e] at q
    obtain ⟨F', S', xv, e1, t, sr', r⟩ := sr.frzAt g e
    exact ⟨xv, e1, q xv F' H S' no (t.sub (un_sub (Sub.refl _) (no_sub _))) (dj_no _) sr' r⟩
theorem den_bin {op : Operator} (ha : PE X a (tD X.K cm px W ea)) (hb : PE X b (tD X.K cm px W eb)) :
    PE X (.BinOp a op b pos) (tD X.K cm px W fun v => (ea v).bind fun x v1 => (eb v1).bind fun y v2 => .of (binD op x y) v2) := by
  refine PE_imp (pe_op (op_binD (cm := cm) op) ha hb) fun σ H Q ⟨F, S, v, g, sr, q⟩ => ?_
  refine ⟨F, S, v, g, sr, RQ.bindI q (Tr.refl g) fun da v1 xa F1 H1 S1 A1 _ q1 t1 j1 sr1 ra => ?_⟩
  have gA := t1.gd.sub (sub_r S1 A1)
  refine ⟨F1, S1, v1, t1.gd.sub (sub_l _ _), sr1, RQ.bindI q1 (t1.sub (sub_l _ _)) fun db v2 xb F2 H2 S2 B2 _ q2 t2 j2 sr2 rb => ?_⟩
  cases e : binD op da db with
  | none => rw [e] at q2; exact q2.elim
  | some d =>
    rw [e] at q2
    have st := ra.stay t2 gA j1
    exact ⟨F2, da, db, d, A1, B2, t2.gd.ex, st.1, rb, e, RQ.fin q2 ((t1.sub (sub_l _ _)).trans (t2.sub (sub_l _ _))) sr2⟩
theorem den_cmpT {op : CmpOp} (ha : PE X a (tD X.K cm px W ea)) (hb : PE X b (tD X.K cm px W eb)) (hm : notSet b = true) :
    PT X (.Compare a [op] [b] pos) (tBo X.K cm px W fun v => (ea v).bind fun x v1 => (eb v1).bind fun y v2 => .of (cmpD op x y) v2) := by
  have hm' : behindInMarks op b = false := by cases b <;> first | (simp [notSet] at hm; done) | rfl
  refine PT_imp (pt_cmpR (op_cmpD (cm := cm) op) ha hb hm') fun σ H Q ⟨F, S, v, g, sr, q⟩ => ?_
  refine ⟨F, S, v, g, sr, RQ.bindI q (Tr.refl g) fun da v1 xa F1 H1 S1 A1 _ q1 t1 j1 sr1 ra => ?_⟩
  have gA := t1.gd.sub (sub_r S1 A1)
  refine ⟨F1, S1, v1, t1.gd.sub (sub_l _ _), sr1, RQ.bindI q1 (t1.sub (sub_l _ _)) fun db v2 xb F2 H2 S2 B2 _ q2 t2 j2 sr2 rb => ?_⟩
  cases e : cmpD op da db with
  | none => rw [e] at q2; exact q2.elim
  | some d =>
    rw [e] at q2
    have st := ra.stay t2 gA j1
    exact ⟨F2, da, db, d, A1, B2, t2.gd.ex, st.1, rb, e, d, rfl, q2 d F2 H2 S2 no ((t1.sub (sub_l _ _)).trans (t2.sub (un_sub (sub_l _ _) (no_sub _)))) (dj_no _) sr2 rfl⟩
theorem den_cmp {op : CmpOp} (ha : PE X a (tD X.K cm px W ea)) (hb : PE X b (tD X.K cm px W eb)) (hm : notSet b = true) :
    PE X (.Compare a [op] [b] pos) (tD X.K cm px W fun v => (ea v).bind fun x v1 => (eb v1).bind fun y v2 => .of ((cmpD op x y).map .bl) v2) := by
  have hm' : behindInMarks op b = false := by cases b <;> first | (simp [notSet] at hm; done) | rfl
  refine PE_imp (pe_cmpR (op_cmpD (cm := cm) op) ha hb hm') fun σ H Q ⟨F, S, v, g, sr, q⟩ => ?_
  refine ⟨F, S, v, g, sr, RQ.bindI q (Tr.refl g) fun da v1 xa F1 H1 S1 A1 _ q1 t1 j1 sr1 ra => ?_⟩
  have gA := t1.gd.sub (sub_r S1 A1)
  refine ⟨F1, S1, v1, t1.gd.sub (sub_l _ _), sr1, RQ.bindI q1 (t1.sub (sub_l _ _)) fun db v2 xb F2 H2 S2 B2 _ q2 t2 j2 sr2 rb => ?_⟩
  cases e : cmpD op da db with
  | none => rw [e] at q2; exact q2.elim
  | some d =>
    rw [e] at q2
    have st := ra.stay t2 gA j1
    exact ⟨F2, da, db, d, A1, B2, t2.gd.ex, st.1, rb, e, (RQ.fin q2 ((t1.sub (sub_l _ _)).trans (t2.sub (sub_l _ _))) sr2).bl t2.gd.ex⟩
theorem den_neg (ha : PE X a (tD X.K cm px W ea)) : PE X (.UnaryOp .USub a pos) (tD X.K cm px W fun v => (ea v).bind fun x v1 => .of ((toI x).map fun i => .int (-i)) v1) := by
  refine PE_imp (pe_un un_neg ha) fun σ H Q ⟨F, S, v, g, sr, q⟩ => ?_
  refine ⟨F, S, v, g, sr, RQ.bindI q (Tr.refl g) fun da v1 xa F1 H1 S1 A1 _ q1 t1 j1 sr1 ra => ?_⟩
  cases da with
  | int i =>
    simp only [Rep] at ra
    exact ⟨i, ra, (RQ.fin q1 (t1.sub (sub_l _ _)) sr1).int t1.gd.ex⟩
  | _ => exact q1.elim
theorem den_ev (ha : PE X a (tD X.K cm px W ea)) (hp : plainTest a = true) : PT X a (tBo X.K cm px W fun v => (ea v).bind fun x v1 => .of (truthD x) v1) := by
  refine PT_imp (pt_truth ha (test_plain hp)) fun σ H Q ⟨F, S, v, g, sr, q⟩ => ?_
  refine ⟨F, S, v, g, sr, RQ.bindI q (Tr.refl g) fun da v1 xa F1 H1 S1 A1 _ q1 t1 j1 sr1 ra => ?_⟩
  cases e : truthD da with
  | none => rw [e] at q1; exact q1.elim
  | some d =>
    rw [e] at q1
    exact ⟨d, truV_of t1.gd.ex ra e, q1 d F1 H1 S1 no (t1.sub (un_sub (sub_l _ _) (no_sub _))) (dj_no _) sr1 rfl⟩
end
end PI
/-! PI, part r: texts of whole numbers of up to 4,300 digits, by str, repr, f-strings; repr of nested data. -/
namespace PI
open PySem PySem.Spec PyProof.Rows L2
open PySem.Builtin PySem.Builtin.Str PySem.Builtin.Int
section
variable {prog : Program} {w : World} {A : Around} {E : Value → Shared → Prop} {s : Shared} {a : Int} {t : Tok} {Q : Value → Shared → Prop}
theorem call_int_reprW (hn : s.heap.NoDigits) (hlt : a.natAbs < digLim) (h : Q (.str (toString a) s.toks) { s with toks := s.toks + 1 }) :
    wpAny (model prog w) A (call (.builtin "int.__repr__") [.int a t]) Q E s := by
  rw [digLim_def] at hlt
  refine wpAny_call_entry F.slot_int_repr (typeIs_int s a t) F.entry_int_repr ?_ (F.args_int_repr_1 _)
  unfold PySem.Builtin.«int.__repr__»
  show wpAny _ _ (do
    let r ← overDigitLimit? a
    _) _ _ s
  refine wpAny_bind (overDigitLimit_any hn (fun _ => wpAny_bind (wpAny_mkStr (wpAny_pure ⟨_, rfl, h⟩) (int_text_fits10 hlt))) fun hge => ?_)
  exact absurd hlt (Nat.not_lt.mpr hge)
theorem strOf_intW (hn : s.heap.NoDigits) (hlt : a.natAbs < digLim) (h : Q (.str (toString a) s.toks) { s with toks := s.toks + 1 }) :
    wpAny (model prog w) A (PySem.Builtin.Str.strOf (.int a t)) Q E s := by
  unfold PySem.Builtin.Str.strOf
  rw [show isExactStr (.int a t) = false from rfl]
  try (have hv : [Value.int a t].any Value.onHeap = false := rfl
       simp only [cRoomFor, hv, Bool.false_eq_true, if_false, pure_bind])
  refine wpAny_bind (m := callSpecial? (.int a t) (Str.ofString "__str__")) (wpAny_callSpecial?_slot (name := Str.ofString "__str__") (typeIs_int s a t) F.slot_int_str
    (wpAny_call_entry F.slot_int_str (typeIs_int s a t) entry_object_str ?_ (args_object_str _)))
  unfold PySem.Builtin.«object.__str__»
  refine wpAny_bind (m := slotArgs "__str__" 0 _) (wpAny_pure ?_)
  try (have hv : [Value.int a t].any Value.onHeap = false := rfl
       simp only [cRoomFor, hv, Bool.false_eq_true, if_false, pure_bind])
  refine wpAny_bind (m := callSpecialIfBound? (.int a t) (Str.ofString "__repr__")) (wpAny_callSpecialIfBound?_slot (name := Str.ofString "__repr__")
    (typeIs_int s a t) F.slot_int_repr (call_int_reprW hn hlt (wpAny_pure ⟨_, rfl, wpAny_pure h⟩)))
theorem str_of_intW (hn : s.heap.NoDigits) (hlt : a.natAbs < digLim) (h : Q (.str (toString a) s.toks) { s with toks := s.toks + 1 }) :
    wpAny (model prog w) A (call (.type "str") [.int a t]) Q E s := by
  refine callType_new F.called_str (by decide) (F.typeCall_str_1 _) (F.newCall_str_1 _) (fun obj => F.args_object_init_2 obj _) F.entry_str_new (meets_str_new
    (S := fun A R s => s.heap.NoDigits ∧ R (.ok (.ret (.str (toString a) s.toks))) { s with toks := s.toks + 1 }) fun _ _ _ _ _ hq => ?_) ⟨hn, ⟨typeIs_str _ _ _, h⟩⟩
  exact strOf_intW hq.1 hlt hq.2
theorem pyReprObj_intW (hn : s.heap.NoDigits) (hu : A.units < cLine) (hlt : a.natAbs < digLim) (h : Q (.str (toString a) s.toks) { s with toks := s.toks + 1 }) :
    wpAny (model prog w) A (pyReprObj (.int a t)) Q E s :=
  wpAny_pyReprObj_slot hu (typeIs_int s a t) F.slot_int_repr.toG (call_int_reprW hn hlt ⟨_, _, rfl, h⟩)
theorem repr_of_intW (hn : s.heap.NoDigits) (hu : A.units + 1 < cLine) (hlt : a.natAbs < digLim) (h : Q (.str (toString a) s.toks) { s with toks := s.toks + 1 }) :
    wpAny (model prog w) A (call (.builtin "repr") [.int a t]) Q E s :=
  call_repr_slot hu (typeIs_int s a t) F.slot_int_repr.toG (call_int_reprW hn hlt ⟨_, _, rfl, h⟩)
theorem formatField_intW (hh : A.handled = none) (hn : s.heap.NoDigits) (hlt : a.natAbs < digLim) (h : Q (.str (toString a) (s.toks + 1)) { s with toks := s.toks + 1 + 1 }) :
    wpAny (model prog w) A (formatField (.int a t) Str.empty) Q E s := by
  rw [digLim_def] at hlt
  exact PyProof.Rows.formatField_int hh hn (fun _ => h) fun hge => absurd hlt (Nat.not_lt.mpr hge)
end
/-! ### nested data -/
section
variable {prog : Program} {w : World} {h₀ : Heap}
theorem ReprK_int (hn : h₀.NoDigits) {a : Int} (t : Tok) (hlt : a.natAbs < digLim) (as : List Addr) (d : Nat) (hd : 0 < d) : ReprK prog w as h₀ d (.int a t) (toString a) := by
  intro base hz A g E s Q hg hcl hu hk hQ
  rw [pyReprUnder_leaf (v := .int a t) (by omega) (fun _ e => nomatch e)]
  unfold pyRepr
  exact wpAny_bind (pyReprObj_intW (hn.keeps hk) (by omega) hlt (wpAny_pure (hQ s.heap _ fun _ _ e => e)))
mutual
theorem ReprKW (hn : h₀.NoDigits) : ∀ {v : Value} {d : PyData} {as : List Addr}, Reads h₀ v d as → shW d = true → d.shown.length ≤ sizeLine → ∃ bs, ReadAtMost h₀ d.depth bs ∧ ReprK prog w bs h₀ (d.depth + 1) v d.shown
  | _, _, _, .none, _, _ => ⟨[], (fun _ h => nomatch h), by simp only [PyData.shown]; exact .of_is ReprIs.none _ _ _⟩
  | _, _, _, .bool b, _, _ => ⟨[], (fun _ h => nomatch h), by simp only [PyData.shown]; exact .of_is (ReprIs.bool b) _ _ _⟩
  | _, _, _, .int i t, hs, _ => ⟨[], (fun _ h => nomatch h), by
      simp only [PyData.shown]
      exact ReprK_int hn t (by simpa [shW] using hs) _ _ (Nat.succ_pos _)⟩
  | _, _, _, .str x t, _, hz => ⟨[], (fun _ h => nomatch h), by
      simp only [PyData.shown] at hz ⊢
      exact .of_is (ReprIs.str x t hz) _ _ _⟩
  | _, _, _, .list (a := a) (vs := vs) (xs := xs) h1 h2 h3 h4, hs, hz => by
    have hz' : (listText (PyData.shownAll xs)).length ≤ sizeLine := by simpa only [PyData.shown] using hz
    obtain ⟨bs, hb, hk⟩ := ReprAllKW hn h4 (by simpa [shW] using hs) (fun t ht => Nat.le_trans (listText_mem_le ht) hz')
    have r : Reads h₀ (.ref a) (.list xs) _ := .list h1 h2 h3 h4
    have hna : a ∉ bs := not_mem_of_deeper r (by simp only [PyData.depth]; omega) hb
    refine ⟨a :: bs, ReadAtMost.cons r (by simp only [PyData.depth]; omega) hb, ?_⟩
    simp only [PyData.depth, PyData.shown]
    obtain ⟨l⟩ := vs
    cases l with
    | nil =>
      have h4' : ReadsAll h₀ [] xs _ := h4
      cases h4'
      simp only [PyData.shownAll, listText_nil]
      exact ReprK.listEmpty h1 h2 h3
    | cons x l => exact ReprK.list h1 h2 h3 hna (by simpa using hk.length_eq) (fun i y e => hk.item i y (by simpa using e))
  | _, _, _, .tuple (a := a) (xs := xs) h1 h2 h3 h4, hs, hz => by
    have hz' : (tupleText (PyData.shownAll xs)).length ≤ sizeLine := by simpa only [PyData.shown] using hz
    obtain ⟨bs, hb, hk⟩ := ReprAllKW hn h4 (by simpa [shW] using hs) (fun t ht => Nat.le_trans (tupleText_mem_le ht) hz')
    have r : Reads h₀ (.ref a) (.tuple xs) _ := .tuple h1 h2 h3 h4
    have hna : a ∉ bs := not_mem_of_deeper r (by simp only [PyData.depth]; omega) hb
    refine ⟨a :: bs, ReadAtMost.cons r (by simp only [PyData.depth]; omega) hb, ?_⟩
    simp only [PyData.depth, PyData.shown]
    exact ReprK.tuple h1 h2 h3 hna hk
  | _, _, _, .dict h1 h2 h3 h4 h5, hs, _ => by simp [shW] at hs
theorem ReprAllKW (hn : h₀.NoDigits) : ∀ {vs : List Value} {ds : List PyData} {as : List Addr}, ReadsAll h₀ vs ds as → shWL ds = true → (∀ t ∈ PyData.shownAll ds, t.length ≤ sizeLine) →
    ∃ bs, ReadAtMost h₀ (PyData.depthAll ds) bs ∧ ReprAllK prog w bs h₀ (PyData.depthAll ds + 1) vs (PyData.shownAll ds)
  | _, _, _, .nil, _, _ => ⟨[], (fun _ h => nomatch h), by simp only [PyData.shownAll]; exact .nil⟩
  | _, _, _, .cons (d := d) (ds := ds) r rs, hs, hz => by
    have hs' : shW d = true ∧ shWL ds = true := by simpa [shWL] using hs
    obtain ⟨b1, hb1, k1⟩ := ReprKW hn r hs'.1 (hz _ (by simp only [PyData.shownAll]; exact List.mem_cons_self ..))
    obtain ⟨b2, hb2, k2⟩ := ReprAllKW hn rs hs'.2 (fun t ht => hz t (by simp only [PyData.shownAll]; exact List.mem_cons_of_mem _ ht))
    simp only [PyData.depthAll, PyData.shownAll]
    refine ⟨b1 ++ b2, fun b hm => ?_, ?_⟩
    · rcases List.mem_append.mp hm with hm | hm
      · obtain ⟨d', as', r', hd'⟩ := hb1 b hm
        exact ⟨d', as', r', Nat.le_trans hd' (Nat.le_max_left _ _)⟩
      · obtain ⟨d', as', r', hd'⟩ := hb2 b hm
        exact ⟨d', as', r', Nat.le_trans hd' (Nat.le_max_right _ _)⟩
    · have m1 : d.depth + 1 ≤ max d.depth (PyData.depthAll ds) + 1 := Nat.succ_le_succ (Nat.le_max_left _ _)
      have m2 : PyData.depthAll ds + 1 ≤ max d.depth (PyData.depthAll ds) + 1 := Nat.succ_le_succ (Nat.le_max_right _ _)
      exact .cons ((k1.more fun b hb => List.mem_append_left _ hb).level_le m1) (k2.more_le (fun b hb => List.mem_append_right _ hb) m2)
end
/-- repr of data -/
theorem repr_dataW {A : Around} {E : Value → Shared → Prop} {s : Shared} {Q : Value → Shared → Prop} (hn : s.heap.NoDigits) (hg : A.guards = some []) {v : Value} {d : PyData} {as : List Addr} (r : Reads s.heap v d as) (hs : shW d = true)
    (hu : A.units + (d.depth + 3) < cLine) (hz : d.shown.length ≤ sizeLine) (hQ : ∀ h' u tk, (∀ b o, s.heap.get? b = some o → h'.get? b = some o) → Q (.str d.shown u) { s with heap := h', toks := tk }) :
    wpAny (model prog w) A (call (.builtin "repr") [v]) Q E s := by
  cases r with
  | none =>
    simp only [PyData.shown] at hQ
    exact P.repr_of_none (hQ s.heap _ _ fun _ _ e => e)
  | bool b =>
    simp only [PyData.shown] at hQ
    have hq := hQ s.heap s.toks (s.toks + 1) fun _ _ e => e
    refine P.repr_of_bool ?_
    cases b <;> exact hq
  | int i t =>
    simp only [PyData.shown] at hQ
    exact repr_of_intW hn (by omega) (by simpa [shW] using hs) (hQ s.heap _ _ fun _ _ e => e)
  | str x t =>
    simp only [PyData.shown] at hQ hz
    exact P.repr_of_str (hQ s.heap _ _ fun _ _ e => e) hz
  | list h1 h2 h3 h4 =>
    rename_i a o vs n xs bs₀
    have hz' : (listText (PyData.shownAll xs)).length ≤ sizeLine := by simpa only [PyData.shown] using hz
    obtain ⟨bs, hb, hk⟩ := ReprAllKW (prog := prog) (w := w) hn h4 (by simpa [shW] using hs) (fun t ht => Nat.le_trans (listText_mem_le ht) hz')
    have hna : a ∉ bs := not_mem_of_deeper (.list h1 h2 h3 h4) (by simp only [PyData.depth]; omega) hb
    refine call_repr_slot (by omega) ⟨o, h1, h2⟩ F.slot_list_repr.toG ?_
    simp only [PyData.depth] at hu
    simp only [PyData.shown] at hQ
    obtain ⟨l⟩ := vs
    cases l with
    | nil =>
      have h4' : ReadsAll s.heap [] xs _ := h4
      cases h4'
      simp only [PyData.shownAll, listText_nil] at hQ
      exact call_list_repr_empty ⟨o, h1, h2⟩ h1 h3 ⟨_, _, rfl, hQ s.heap _ _ fun _ _ e => e⟩
    | cons x l =>
      exact call_list_reprK h1 h2 h3 hna (by simpa using hk.length_eq) (fun i y e => hk.item i y (by simpa using e)) (by exact hg) (fun b _ => Clear.nil b) (by show A.units + 1 + (PyData.depthAll xs + 1 + 1) < cLine; omega)
        (fun _ _ e => e) (fun h' u tk k => ⟨_, _, rfl, hQ h' u tk k⟩) hz'
  | tuple h1 h2 h3 h4 =>
    rename_i a o vs n xs
    have hz' : (tupleText (PyData.shownAll xs)).length ≤ sizeLine := by simpa only [PyData.shown] using hz
    obtain ⟨bs, hb, hk⟩ := ReprAllKW (prog := prog) (w := w) hn h4 (by simpa [shW] using hs) (fun t ht => Nat.le_trans (tupleText_mem_le ht) hz')
    have hna : a ∉ bs := not_mem_of_deeper (.tuple h1 h2 h3 h4) (by simp only [PyData.depth]; omega) hb
    refine call_repr_slot (by omega) ⟨o, h1, h2⟩ F.slot_tuple_repr ?_
    simp only [PyData.depth] at hu
    simp only [PyData.shown] at hQ
    exact call_tuple_reprK h1 h2 h3 hna hk (by exact hg) (fun b _ => Clear.nil b) (by show A.units + 1 + (PyData.depthAll xs + 1 + 1) < cLine; omega) (fun _ _ e => e) (fun h' u tk k => ⟨_, _, rfl, hQ h' u tk k⟩) hz'
  | dict h1 h2 h3 h4 h5 => simp [shW] at hs
end
end PI
/-! PI: int(text), up to 4,300 digits. -/
namespace PySem.W
open PySem PySem.Calls PySem.NumText PyProof.Rows
namespace KIN
theorem limit_is {M : Model} {A : Around} {E : Value → Shared → Prop} {s : Shared} {Q : Nat → Shared → Prop} (hn : s.heap.NoDigits) (h : Q 4300 s) : wpAny M A Builtin.intMaxStrDigits Q E s := by
  obtain ⟨mc, z, e⟩ := hn
  unfold Builtin.intMaxStrDigits
  refine wpAny_bind (wpAny_nsGet z ?_)
  rw [e]
  exact wpAny_pure h
theorem wp_long {M : Model} {A : Around} {E : Value → Shared → Prop} {s : Shared} {Q : Value → Shared → Prop} {v : Value} {text : List Nat} {n : Int} (hn : s.heap.NoDigits) (far : ¬ (text.takeWhile (· != 0)).length ≤ 640)
    (rd : (int_private% "readNumeral") 4300 10 (text.takeWhile (· != 0)) = (int_private% "Numeral.value") n) (all : ((text.takeWhile (· != 0)).length == text.length) = true) (q : Q (.int n s.toks) { s with toks := s.toks + 1 }) :
    wpAny M A ((int_private% "intFromText") v text 10) Q E s := by
  obtain ⟨hp, ge, dr, tk, osv⟩ := s
  repeat (any_goals (first
    | assumption
    | (with_reducible refine limit_is hn ?_)
    | (with_reducible refine wpAny_ite_false (decide_eq_false far) ?_)
    | (with_reducible refine wpAny_ite_true (decide_eq_true all) ?_)
    | wp_step))
  all_goals (try rw [rd])
  all_goals (try dsimp only)
  repeat (any_goals (first
    | assumption
    | (with_reducible refine wpAny_ite_true (decide_eq_true all) ?_)
    | wp_step))
theorem meets_long {x : PySem.Str} {u : Tok} {n : Int} (far : ¬ (numSeenOf x).length ≤ 640) (hz : x.length ≤ sizeLine) (hn : PySem.intText? x = some n) :
    Meets (Builtin.«int.__new__» ⟨[.type "int", .str x u], []⟩) (fun _ R s => s.heap.NoDigits ∧ R (.ok (.ret (.int n s.toks))) { s with toks := s.toks + 1 }) :=
  .of_wp fun prog w A R s hs => by
    obtain ⟨hd, hq⟩ := hs
    obtain ⟨hp, ge, dr, tk, osv⟩ := s
    have z1 := F.conv_sub_int
    have z2 := F.madeHere_int
    have z3 := str_int
    have z4 := str_idx
    have z5 := str_trunc
    have z6 : typeOf (.str x u) = pure (.type "str") := rfl
    have rd : (int_private% "readNumeral") 4300 10 (numSeenOf x) = (int_private% "Numeral.value") n ∧ ((numSeenOf x).length == (numTextOf x).length) = true := by
      rcases read4300 x hz with ⟨m, y1, y2, y3⟩ | ⟨y1, _⟩
      · rw [hn] at y1
        injection y1 with y1
        subst y1
        exact ⟨y3, y2⟩
      · rw [hn] at y1
        cases y1
    have kept := Hid.mk (And.intro far rd)
    clear far rd hz hn
    repeat (any_goals (first
      | assumption
      | ((with_reducible show wpAny _ _ ((int_private% "intFromText") _ _ _) _ _ _); refine wp_long hd kept.out.1 kept.out.2.1 kept.out.2.2 ?_)
      | wp_step))
    all_goals first | exact ⟨_, rfl, hq⟩ | skip
theorem call_textW {prog : Program} {w : World} {A : Around} {E : Value → Shared → Prop} {s : Shared} {Q : Value → Shared → Prop} {x : PySem.Str} {t : Tok} {n : Int} (hd : s.heap.NoDigits) (hz : x.length ≤ sizeLine) (far : 640 < (numSeenOf x).length) (hn : PySem.intText? x = some n) (q : Q (.int n s.toks) { s with toks := s.toks + 1 }) :
    wpAny (model prog w) A (call (.type "int") [.str x t]) Q E s := call_int_1 (meets_long (Nat.not_le.mpr far) hz hn) ⟨hd, rfl, q⟩
end KIN
end PySem.W
/-! PI, part i: built-in functions and methods by data. -/
namespace PI
open PySem PySem.Spec PyProof.Rows L2
variable {X : Cx} {cm : Nat → Addr}
/-- a call on values, by data -/
def rB (K : PySem.W.Frag) (cm : Nat → Addr) (b : Bi) : List V → Hp → VK → Prop := fun vs H Q => ∃ F ds d S, Ex F H ∧ RepL K cm F H ds vs S ∧ biF b ds = some d ∧ PR K cm F H d Q
def biV : Bi → Value
  | .len => .builtin "len" | .int => .type "int" | .str => .type "str" | .abs => .builtin "abs" | .max => .builtin "max" | .min => .builtin "min" | .gcd => .builtin "math.gcd" | .repr => .builtin "repr" | .tuple => .type "tuple" | .list => .type "list"
theorem repL1 {K : PySem.W.Frag} {F H : Hp} {d : D} {vs : List V} {S : Set'} (h : RepL K cm F H [d] vs S) : ∃ x, vs = [x] ∧ Rep K cm F H d x S := by
  simp only [RepL] at h
  obtain ⟨x, r, S1, S2, rfl, s1, _, _, p, rfl⟩ := h
  exact ⟨x, rfl, p.mono (Ex.refl _) d s1 fun _ _ => rfl⟩
theorem repL2 {K : PySem.W.Frag} {F H : Hp} {d e : D} {vs : List V} {S : Set'} (h : RepL K cm F H [d, e] vs S) : ∃ x y, vs = [x, y] ∧ Rep K cm F H d x S ∧ Rep K cm F H e y S := by
  simp only [RepL] at h
  obtain ⟨x, r, S1, S2, rfl, s1, s2, _, p, y, r', S3, S4, rfl, s3, _, _, p', rfl⟩ := h
  exact ⟨x, y, rfl, p.mono (Ex.refl _) d s1 fun _ _ => rfl, p'.mono (Ex.refl _) e (s3.trans s2) fun _ _ => rfl⟩
mutual
theorem dp_of {K : PySem.W.Frag} {F H : Hp} (e : Ex F H) : ∀ (d : D) {x : V} {S : Set'} {p : PyData}, Rep K cm F H d x S → D.py d = some p → Dp K H x p
  | .non, _, _, _, h, q => by simp only [Rep, D.py] at h q; cases q; subst h; exact .non
  | .bl b, _, _, _, h, q => by simp only [Rep, D.py] at h q; cases q; subst h; exact .bl b
  | .int b, _, _, _, h, q => by simp only [Rep, D.py] at h q; cases q; subst h; exact .int b
  | .str b, _, _, _, h, q => by simp only [Rep, D.py] at h q; cases q; subst h; exact .str b
  | .tup l, _, _, _, h, q => by
    obtain ⟨a, xs, rfl, hs, hl⟩ := rep_sqt e h
    simp only [D.py, Option.map_eq_some_iff] at q
    obtain ⟨ps, q, rfl⟩ := q
    exact .tup hs (dpL_of e l hl q)
  | .lst o l, _, _, _, h, q => by
    obtain ⟨a, xs, rfl, hs, hl⟩ := rep_sql e h
    simp only [D.py, Option.map_eq_some_iff] at q
    obtain ⟨ps, q, rfl⟩ := q
    exact .lst hs (dpL_of e l hl q)
  | .dct _ _, _, _, _, h, q => by simp only [D.py] at q; cases q
  | .ins _ _ _, _, _, _, h, q => by simp only [D.py] at q; cases q
theorem dpL_of {K : PySem.W.Frag} {F H : Hp} (e : Ex F H) : ∀ (l : List D) {xs : List V} {S : Set'} {ps : List PyData}, RepL K cm F H l xs S → D.pyL l = some ps → DpAll K H xs ps
  | [], _, _, _, h, q => by simp only [RepL, D.pyL] at h q; cases q; subst h; exact .nil
  | d :: l, _, _, _, h, q => by
    simp only [RepL] at h
    obtain ⟨x, r, S1, S2, rfl, _, _, _, p1, p2⟩ := h
    simp only [D.pyL, Option.bind_eq_some_iff, Option.map_eq_some_iff] at q
    obtain ⟨p, q1, ps, q2, rfl⟩ := q
    exact .cons (dp_of e d p1 q1) (dpL_of e l p2 q2)
end
theorem Inv_digits {pins : List (Addr × Obj)} {σ : L2.St} {H : Hp} {s : Shared} (I : Inv X pins σ H s) (h : X.base.NoDigits) : s.heap.NoDigits := h.keeps I.bk
theorem call_biD (b : Bi) (hd : X.base.NoDigits) (hg : X.A.guards = some []) (hu : X.A.units + 100 < cLine) (hc : b = .max ∨ b = .min → X.calm = true) : CallR X (biV b) (rB X.K cm b) := by
  intro pins s σ H vs us Q I r ⟨F, ds, d, S, e, hr, hb, q⟩
  unfold biF at hb
  split at hb
  · obtain ⟨x, rfl, h⟩ := repL1 hr
    split at hb <;> cases hb
    rename_i z
    simp only [Rep] at h
    subst h
    exact call_len_str pins s σ H _ us Q I r ⟨_, rfl, z, q.int e⟩
  · obtain ⟨x, rfl, h⟩ := repL1 hr
    cases hb
    obtain ⟨a, xs, rfl, hs, hl⟩ := rep_sql e h
    refine call_len_seq pins s σ H _ us Q I r ⟨a, xs, rfl, .inl hs, ?_⟩
    rw [hl.len]
    exact q.int e
  · obtain ⟨x, rfl, h⟩ := repL1 hr
    cases hb
    obtain ⟨a, xs, rfl, hs, hl⟩ := rep_sqt e h
    refine call_len_seq pins s σ H _ us Q I r ⟨a, xs, rfl, .inr hs, ?_⟩
    rw [hl.len]
    exact q.int e
  · obtain ⟨x, rfl, h⟩ := repL1 hr
    cases hb
    simp only [Rep] at h
    subst h
    exact call_int1 pins s σ H _ us Q I r (.inl ⟨_, rfl, q.int e⟩)
  · obtain ⟨x, rfl, h⟩ := repL1 hr
    cases hb
    simp only [Rep] at h
    subst h
    exact call_int1 pins s σ H _ us Q I r (.inr ⟨_, rfl, q.int e⟩)
  · obtain ⟨x, rfl, h⟩ := repL1 hr
    cases hb
    simp only [Rep] at h
    subst h
    exact call_abs pins s σ H _ us Q I r ⟨_, rfl, q.int e⟩
  · obtain ⟨x, y, rfl, h, h'⟩ := repL2 hr
    cases hb
    simp only [Rep] at h h'
    subst h h'
    exact call_max2 (hc (.inl rfl)) pins s σ H _ us Q I r ⟨_, _, rfl, q.int e⟩
  · obtain ⟨x, y, rfl, h, h'⟩ := repL2 hr
    cases hb
    simp only [Rep] at h h'
    subst h h'
    exact call_min2 (hc (.inr rfl)) pins s σ H _ us Q I r ⟨_, _, rfl, q.int e⟩
  · obtain ⟨x, y, rfl, h, h'⟩ := repL2 hr
    cases hb
    simp only [Rep] at h h'
    subst h h'
    exact cr_gcd pins s σ H _ us Q I r ⟨_, _, rfl, q.int e⟩
  · obtain ⟨x, rfl, h⟩ := repL1 hr
    split at hb <;> cases hb
    rename_i z
    simp only [Rep] at h
    subst h
    obtain ⟨u, rfl, ru⟩ := vals1 r
    obtain ⟨t, rfl⟩ := ru
    exact str_of_intW (Inv_digits I hd) z ⟨.str _, H, I.tok _, ⟨_, rfl⟩, q.str e⟩
  · obtain ⟨x, rfl, h⟩ := repL1 hr
    simp only [Option.bind_eq_some_iff] at hb
    obtain ⟨p, hp, hb⟩ := hb
    split at hb <;> cases hb
    rename_i z
    simp only [Bool.and_eq_true, decide_eq_true_eq] at z
    obtain ⟨u, rfl, ru⟩ := vals1 r
    obtain ⟨as, hR⟩ := Dp.reads I p x u (dp_of e _ h hp) ru
    refine repr_dataW (Inv_digits I hd) hg hR z.1.1 (by omega) z.2 fun h' u tk k => ?_
    exact ⟨.str _, H, I.kept k, ⟨_, rfl⟩, q.str e⟩
  · obtain ⟨x, rfl, h⟩ := repL1 hr
    split at hb
    · rename_i z
      simp only [Option.map_eq_some_iff] at hb
      obtain ⟨n, hn, rfl⟩ := hb
      simp only [Rep] at h
      subst h
      rcases z with z | z
      · exact call_int_str pins s σ H _ us Q I r ⟨_, n, rfl, hn, z, q.int e⟩
      · obtain ⟨u, rfl, t, rfl⟩ := vals1 r
        exact PySem.W.KIN.call_textW (Inv_digits I hd) z.2 z.1 hn ⟨.int n, H, I.tok _, ⟨_, rfl⟩, q.int e⟩
    · cases hb
  · obtain ⟨x, rfl, h⟩ := repL1 hr
    split at hb <;> cases hb
    rename_i z
    obtain ⟨a, xs, rfl, hs, hl⟩ := rep_sql e h
    exact call_tuple_of pins s σ H _ us Q I r ⟨a, xs, rfl, .inl ⟨hs, fun p hp => PR.tup e (frzL z hl) q hp⟩⟩
  · obtain ⟨x, rfl, h⟩ := repL1 hr
    split at hb <;> cases hb
    rename_i z
    have h' : Rep X.K cm F H (.tup _) x no := h.frozen _ (by simp only [D.frozen]; exact z)
    obtain ⟨a, xs, rfl, hs, hl⟩ := rep_sqt e h
    exact call_tuple_of pins s σ H _ us Q I r ⟨a, xs, rfl, .inr ⟨hs, q.same e h'⟩⟩
  · obtain ⟨x, rfl, h⟩ := repL1 hr
    split at hb <;> cases hb
    rename_i z
    obtain ⟨a, xs, rfl, hs, hl⟩ := rep_sql e h
    exact call_list_of pins s σ H _ us Q I r ⟨a, xs, rfl, .inl hs, fun p hp => PR.lst e (frzL z hl) q hp⟩
  · obtain ⟨x, rfl, h⟩ := repL1 hr
    split at hb <;> cases hb
    rename_i z
    obtain ⟨a, xs, rfl, hs, hl⟩ := rep_sqt e h
    exact call_list_of pins s σ H _ us Q I r ⟨a, xs, rfl, .inr hs, fun p hp => PR.lst e (frzL z hl) q hp⟩
  · cases hb
end PI
/-! PI, part j: more expressions. -/
namespace PI
open PySem PySem.Spec PyProof.Rows L2
section
variable {K : PySem.W.Frag} {cm : Nat → Addr} {px : Px} {W : WX} {F H F1 H1 F2 H2 F3 H3 : Hp} {S S1 S2 S3 S4 S5 : Set'} {σ : L2.St} {Q : VK} {d : D} {v : Env} {x : V} {p : Addr} {o : HO}
theorem Tr.left (t : Tr F H S F1 H1 (un S1 S2)) : Tr F H S F1 H1 S1 := t.sub (sub_l _ _)
theorem Tr.glue {T : Set'} (t : Tr F H S F1 H1 S1) (h : Sub T S1) (h' : Sub S1 T) : Tr F H S F1 H1 T := t.sub h
theorem tr_frzS (g : Gd F H S) (h : H p = none) : Tr F H S (upd F p o) (upd H p o) S := by
  have t := (tr_frz (o := o) g.ex h).frame g (no_dj _)
  exact (t.wide (un_sub (no_sub _) (Sub.refl _))).sub (sub_r _ _)
theorem tr_ownS (g : Gd F H S) (h : H p = none) : Tr F H S F (upd H p o) (un (at1 p) S) := by
  have t := (tr_own (o := o) g.ex h).frame g (no_dj _)
  exact t.wide (un_sub (no_sub _) (Sub.refl _))
theorem RQ.fin2 (h : RQ K cm px W (Rep K cm) (.ok d v) F H S σ Q) (t : Tr F H S F2 H2 (un S3 S4)) (j : Dj S3 S4) (sr : SRs K cm px F2 H2 v σ S3) (u : Tr F2 H2 S4 F3 H3 S5) (rp : Rep K cm F3 H3 d x S5) : Q x H3 := by
  have g3 : Gd F2 H2 S3 := t.gd.sub (sub_l _ _)
  have b := u.beside g3 j.symm
  have u' := (u.frame g3 j.symm)
  refine h x F3 H3 S3 S5 (t.trans ((u'.wide (un_sub (sub_r _ _) (sub_l _ _))).sub (un_sub (sub_r _ _) (sub_l _ _)))) b.2.2.symm (sr.mono u.ex b.1 (Sub.refl _)) rp
theorem arAll_ar : ∀ {as : List Ar} {l : List D} {vs : List V} {S : Set'}, arAll as = some l → ArR K cm σ F H as vs S → RepL K cm F H l vs S
  | [], l, vs, S, h, r => by cases h; simp only [ArR] at r; simp only [RepL]; exact r
  | .d y :: as, l, vs, S, h, r => by
    simp only [arAll, Option.map_eq_some_iff] at h
    obtain ⟨l', h, rfl⟩ := h
    simp only [ArR] at r
    obtain ⟨u, r', S1, S2, rfl, s1, s2, j, p1, p2⟩ := r
    simp only [RepL]
    exact ⟨u, r', S1, S2, rfl, s1, s2, j, p1, arAll_ar h p2⟩
  | .v i :: as, l, vs, S, h, r => by cases h
theorem arR_mono (e : Ex F F1) : ∀ {as : List Ar} {vs : List V} {S T : Set'}, Sub S T → (∀ a, S a → H1 a = H a) → ArR K cm σ F H as vs S → ArR K cm σ F1 H1 as vs T
  | [], vs, S, T, _, _, r => by simpa only [ArR] using r
  | .d y :: as, vs, S, T, s, k, r => by
    simp only [ArR] at r ⊢
    obtain ⟨u, r', S1, S2, rfl, s1, s2, j, p1, p2⟩ := r
    exact ⟨u, r', S1, S2, rfl, s1.trans s, s2.trans s, j, p1.mono e y (Sub.refl _) fun a z => k a (s1 a z), arR_mono e (Sub.refl _) (fun a z => k a (s2 a z)) p2⟩
  | .v i :: as, vs, S, T, s, k, r => by
    simp only [ArR] at r ⊢
    obtain ⟨u, r', rfl, q, p⟩ := r
    exact ⟨u, r', rfl, q, arR_mono e s k p⟩
end
section
variable {cm : Nat → Addr} {px : Px} {W : WX} {X : Cx} {a b c : Expr} {rest es : List Expr} {pos : Pos} {ea eb ec : Env → R D} {ct cu : Env → R Bool} {x : Sx} {C : PI.Ctx}
theorem toB_rep {F H : Hp} {d : D} {y : V} {S : Set'} {k : Bool} (h : toB d = some k) (r : Rep X.K cm F H d y S) : y = .bl k := by
  cases d <;> simp only [toB] at h <;> first | (cases h; done) | (cases h; simpa only [Rep] using r)
theorem den_and (ha : PE X a (tD X.K cm px W ea)) (hb : PE X (.BoolOp .And (b :: rest) pos) (tD X.K cm px W eb)) :
    PE X (.BoolOp .And (a :: b :: rest) pos) (tD X.K cm px W fun v => (ea v).bind fun x v1 => (R.of (toB x) v1).bind fun c v2 => if c then eb v2 else .ok (.bl false) v2) := by
  refine PE_imp (pe_and ha hb) fun σ H Q ⟨F, S, v, g, sr, q⟩ => ?_
  refine ⟨F, S, v, g, sr, RQ.bindI q (Tr.refl g) fun da v1 xa F1 H1 S1 A1 _ q1 t1 j1 sr1 ra => ?_⟩
  cases e : toB da with
  | none => rw [e] at q1; exact q1.elim
  | some k =>
    rw [e] at q1
    refine ⟨k, toB_rep e ra, ?_⟩
    cases k with
    | true => exact iteT ⟨F1, S1, v1, t1.left.gd, sr1, RQ.later q1 t1.left⟩
    | false => exact iteF ((RQ.fin q1 t1.left sr1).bl t1.gd.ex)
theorem den_or (ha : PE X a (tD X.K cm px W ea)) (hb : PE X (.BoolOp .Or (b :: rest) pos) (tD X.K cm px W eb)) :
    PE X (.BoolOp .Or (a :: b :: rest) pos) (tD X.K cm px W fun v => (ea v).bind fun x v1 => (R.of (toB x) v1).bind fun c v2 => if c then .ok (.bl true) v2 else eb v2) := by
  refine PE_imp (pe_or ha hb) fun σ H Q ⟨F, S, v, g, sr, q⟩ => ?_
  refine ⟨F, S, v, g, sr, RQ.bindI q (Tr.refl g) fun da v1 xa F1 H1 S1 A1 _ q1 t1 j1 sr1 ra => ?_⟩
  cases e : toB da with
  | none => rw [e] at q1; exact q1.elim
  | some k =>
    rw [e] at q1
    refine ⟨k, toB_rep e ra, ?_⟩
    cases k with
    | false => exact iteF ⟨F1, S1, v1, t1.left.gd, sr1, RQ.later q1 t1.left⟩
    | true => exact iteT ((RQ.fin q1 t1.left sr1).bl t1.gd.ex)
theorem den_not (ha : PE X a (tD X.K cm px W ea)) : PE X (.UnaryOp .Not a pos) (tD X.K cm px W fun v => (ea v).bind fun x v1 => (R.of (toB x) v1).bind fun c v2 => .ok (.bl (!c)) v2) := by
  refine PE_imp (pe_not ha) fun σ H Q ⟨F, S, v, g, sr, q⟩ => ?_
  refine ⟨F, S, v, g, sr, RQ.bindI q (Tr.refl g) fun da v1 xa F1 H1 S1 A1 _ q1 t1 j1 sr1 ra => ?_⟩
  cases e : toB da with
  | none => rw [e] at q1; exact q1.elim
  | some k =>
    rw [e] at q1
    exact ⟨k, toB_rep e ra, (RQ.fin q1 t1.left sr1).bl t1.gd.ex⟩
theorem den_ife (hc : PT X c (tBo X.K cm px W ct)) (ha : PE X a (tD X.K cm px W ea)) (hb : PE X b (tD X.K cm px W eb)) :
    PE X (.IfExp c a b pos) (tD X.K cm px W fun v => (ct v).bind fun c v1 => if c then ea v1 else eb v1) := by
  refine PE_imp (pe_ifExp hc ha hb) fun σ H Q ⟨F, S, v, g, sr, q⟩ => ?_
  refine ⟨F, S, v, g, sr, RQ.bindI q (Tr.refl g) fun da v1 xa F1 H1 S1 A1 _ q1 t1 j1 sr1 ra => ?_⟩
  obtain rfl : xa = da := ra
  cases xa with
  | true => exact iteT ⟨F1, S1, v1, t1.left.gd, sr1, RQ.later q1 t1.left⟩
  | false => exact iteF ⟨F1, S1, v1, t1.left.gd, sr1, RQ.later q1 t1.left⟩
/-! ### tests -/
theorem den_andT (ha : PT X a (tBo X.K cm px W ct)) (hb : PW X (.BoolOp .And (b :: rest) pos) (tBo X.K cm px W cu)) :
    PW X (.BoolOp .And (a :: b :: rest) pos) (tBo X.K cm px W fun v => (ct v).bind fun c v1 => if c then cu v1 else .ok false v1) := by
  refine PW_imp (pw_and ha hb) fun σ H Q ⟨F, S, v, g, sr, q⟩ => ?_
  refine ⟨F, S, v, g, sr, RQ.bindI q (Tr.refl g) fun da v1 xa F1 H1 S1 A1 _ q1 t1 j1 sr1 ra => ?_⟩
  obtain rfl : xa = da := ra
  cases xa with
  | true => exact iteT ⟨F1, S1, v1, t1.left.gd, sr1, RQ.later q1 t1.left⟩
  | false => exact iteF (q1 false F1 H1 S1 no (t1.left.sub (un_sub (Sub.refl _) (no_sub _))) (dj_no _) sr1 rfl)
theorem den_orT (ha : PT X a (tBo X.K cm px W ct)) (hb : PW X (.BoolOp .Or (b :: rest) pos) (tBo X.K cm px W cu)) :
    PW X (.BoolOp .Or (a :: b :: rest) pos) (tBo X.K cm px W fun v => (ct v).bind fun c v1 => if c then .ok true v1 else cu v1) := by
  refine PW_imp (pw_or ha hb) fun σ H Q ⟨F, S, v, g, sr, q⟩ => ?_
  refine ⟨F, S, v, g, sr, RQ.bindI q (Tr.refl g) fun da v1 xa F1 H1 S1 A1 _ q1 t1 j1 sr1 ra => ?_⟩
  obtain rfl : xa = da := ra
  cases xa with
  | false => exact iteF ⟨F1, S1, v1, t1.left.gd, sr1, RQ.later q1 t1.left⟩
  | true => exact iteT (q1 true F1 H1 S1 no (t1.left.sub (un_sub (Sub.refl _) (no_sub _))) (dj_no _) sr1 rfl)
theorem den_oneT {op : BoolOp} (ha : PT X a (tBo X.K cm px W ct)) : PW X (.BoolOp op [a] pos) (tBo X.K cm px W ct) := by
  cases op with
  | And => exact pw_and1 ha
  | Or => exact pw_or1 ha
theorem den_notT (ha : PT X a (tBo X.K cm px W ct)) : PT X (.UnaryOp .Not a pos) (tBo X.K cm px W fun v => (ct v).bind fun c v1 => .ok (!c) v1) := by
  refine PT_imp (pt_not ha) fun σ H Q ⟨F, S, v, g, sr, q⟩ => ?_
  refine ⟨F, S, v, g, sr, RQ.bindI q (Tr.refl g) fun da v1 xa F1 H1 S1 A1 _ q1 t1 j1 sr1 ra => ?_⟩
  obtain rfl : xa = da := ra
  exact q1 _ F1 H1 S1 no (t1.left.sub (un_sub (Sub.refl _) (no_sub _))) (dj_no _) sr1 rfl
/-! ### arguments -/
variable {ar : Env → R (List Ar)}
theorem den_nil : PA X [] (tAr X.K cm px W fun v => .ok [] v) := by
  refine PA_imp pa_nil fun σ H Q ⟨F, S, v, g, sr, q⟩ => ?_
  exact q [] F H S no ((Tr.refl g).sub (un_sub (Sub.refl _) (no_sub _))) (dj_no _) sr (by simp only [ArR])
theorem den_cons (ha : PE X a (tD X.K cm px W ea)) (hr : PA X es (tAr X.K cm px W ar)) (hn : notStar a = true) :
    PA X (a :: es) (tAr X.K cm px W fun v => (ea v).bind fun x v1 => (ar v1).bind fun as v2 => .ok (.d x :: as) v2) := by
  refine PA_imp (pa_cons ha hr (star_cons hn)) fun σ H Q ⟨F, S, v, g, sr, q⟩ => ?_
  refine ⟨F, S, v, g, sr, RQ.bindI q (Tr.refl g) fun da v1 xa F1 H1 S1 A1 _ q1 t1 j1 sr1 ra => ?_⟩
  have gA := t1.gd.sub (sub_r S1 A1)
  refine ⟨F1, S1, v1, t1.left.gd, sr1, RQ.bindI q1 t1.left fun as v2 vs F2 H2 S2 B2 _ q2 t2 j2 sr2 rb => ?_⟩
  have st := ra.stay t2 gA j1
  have fr := t2.frame gA j1
  refine q2 (xa :: vs) F2 H2 S2 (un A1 B2) ((t1.trans fr).sub (un_sub ((sub_l _ _).trans (sub_l _ _)) (un_sub (sub_r _ _) ((sub_r _ _).trans (sub_l _ _))))) ?_ sr2 ?_
  · intro z h1 h2
    rcases h2 with h2 | h2
    · exact st.2.2 z (.inl h1) h2
    · exact j2 z h1 h2
  · simp only [ArR]
    exact ⟨xa, vs, A1, B2, rfl, sub_l _ _, sub_r _ _, fun z h1 h2 => st.2.2 z (.inr h2) h1, st.1, rb⟩
theorem den_vcons {i : Nat} (ha : PE X a (tVar i)) (hr : PA X es (tAr X.K cm px W ar)) (hn : notStar a = true) :
    PA X (a :: es) (tAr X.K cm px W fun v => match getV v i with
      | some _ => (ar v).bind fun as v2 => .ok (.v i :: as) v2
      | none => .err) := by
  refine PA_imp (pa_cons ha hr (star_cons hn)) fun σ H Q ⟨F, S, v, g, sr, q⟩ => ?_
  simp only at q
  cases e : getV v i with
  | none => rw [e] at q; exact q.elim
  | some d =>
    rw [e] at q
    obtain ⟨xv, e1, _⟩ := sr.get e
    refine ⟨xv, e1, F, S, v, g, sr, RQ.bindI q (Tr.refl g) fun as v2 vs F2 H2 S2 B2 _ q2 t2 j2 sr2 rb => ?_⟩
    exact q2 (xv :: vs) F2 H2 S2 B2 t2 j2 sr2 (by simp only [ArR]; exact ⟨xv, vs, rfl, e1, rb⟩)
theorem den_tup {k : Nat} (h : PA X es (tAr X.K cm px W ar)) : PE X (.Tuple es k pos) (tD X.K cm px W fun v => (ar v).bind fun as v1 => (R.of (arAll as) v1).bind fun l v2 => if l.length ≤ sizeLine then .ok (.tup l) v2 else .err) := by
  refine PE_imp (pe_tup h) fun σ H Q ⟨F, S, v, g, sr, q⟩ => ?_
  refine ⟨F, S, v, g, sr, RQ.bindI q (Tr.refl g) fun as v1 vs F1 H1 S1 A1 _ q1 t1 j1 sr1 ra => ?_⟩
  cases e : arAll as with
  | none => rw [e] at q1; exact q1.elim
  | some l =>
    rw [e] at q1
    simp only [R.of_some, R.bind_ok] at q1
    have rl := arAll_ar e ra
    split at q1
    · rename_i z
      refine ⟨by rw [rl.len]; exact z, fun p hp => RQ.fin2 q1 t1 j1 sr1 (tr_frzS (t1.gd.sub (sub_r _ _)) hp) ?_⟩
      simp only [Rep]
      exact ⟨p, vs, rfl, SqT.of upd_same, rl.mono (ex_upd (ex_none t1.gd.ex hp)) l (Sub.refl _) fun w z => by
        obtain ⟨o, e'⟩ := t1.gd.dom w (.inr z)
        rw [upd_ne fun y => by rw [y, hp] at e'; cases e']⟩
    · exact q1.elim
theorem den_lst (h : PA X es (tAr X.K cm px W ar)) : PE X (.List es pos) (tD X.K cm px W fun v => (ar v).bind fun as v1 => (R.of (arAll as) v1).bind fun l v2 => if l.length ≤ sizeLine then .ok (.lst .own l) v2 else .err) := by
  refine PE_imp (pe_lst h) fun σ H Q ⟨F, S, v, g, sr, q⟩ => ?_
  refine ⟨F, S, v, g, sr, RQ.bindI q (Tr.refl g) fun as v1 vs F1 H1 S1 A1 _ q1 t1 j1 sr1 ra => ?_⟩
  cases e : arAll as with
  | none => rw [e] at q1; exact q1.elim
  | some l =>
    rw [e] at q1
    simp only [R.of_some, R.bind_ok] at q1
    have rl := arAll_ar e ra
    split at q1
    · rename_i z
      refine ⟨by rw [rl.len]; exact z, fun p hp => RQ.fin2 q1 t1 j1 sr1 (tr_ownS (t1.gd.sub (sub_r _ _)) hp) ?_⟩
      have np : ¬ A1 p := fun y => by
        obtain ⟨o, e'⟩ := t1.gd.dom p (.inr y)
        rw [hp] at e'
        cases e'
      simp only [Rep]
      refine ⟨p, vs, A1, rfl, upd_same, .inl rfl, sub_r _ _, np, rl.mono (Ex.refl _) l (Sub.refl _) fun w z => ?_⟩
      rw [upd_ne fun y => np (by rw [← y]; exact z)]
    · exact q1.elim
end
end PI
/-! PI, part k: calls: what is lent, and how it comes back. -/
namespace PI
open PySem PySem.Spec PyProof.Rows L2
theorem getV_set_ne {v : Env} {i j : Nat} {z : Option D} (h : j ≠ i) : getV (v.set i z) j = getV v j := by
  unfold getV
  rw [List.getElem?_set_ne (Ne.symm h)]
theorem arD_set : ∀ {as : List Ar} {b : List Bool} {v : Env} {i : Nat} {z : Option D}, i ∉ arVs as → arD as b (v.set i z) = (arD as b v).map fun p => (p.1, p.2.set i z)
  | [], b, v, i, z, _ => rfl
  | .d x :: l, b, v, i, z, h => by
    simp only [arD]
    rw [arD_set (as := l) h]
    cases arD l b.tail v <;> rfl
  | .v j :: l, b, v, i, z, h => by
    simp only [arVs, List.mem_cons, not_or] at h
    have hne : j ≠ i := fun e => h.1 e.symm
    simp only [arD]
    rw [getV_set_ne hne]
    cases getV v j with
    | none => rfl
    | some x =>
      simp only [Option.bind_some]
      split
      · rw [List.set_comm _ _ (Ne.symm hne), arD_set (as := l) h.2]
        cases arD l b.tail (v.set j (some x.freeze)) <;> rfl
      · rw [arD_set (as := l) h.2]
        cases arD l b.tail v <;> rfl
/-- the slots that are lent are empty meanwhile -/
def lendE : List Ar → List Bool → Env → Env
  | [], _, v => v
  | .d _ :: l, b, v => lendE l b.tail v
  | .v i :: l, b, v => if b.headD false then lendE l b.tail v else (lendE l b.tail v).set i none
theorem lendE_set : ∀ {as : List Ar} {b : List Bool} {v : Env} {i : Nat} {z : Option D}, i ∉ arVs as → lendE as b (v.set i z) = (lendE as b v).set i z
  | [], b, v, i, z, _ => rfl
  | .d x :: l, b, v, i, z, h => by
    simp only [lendE]
    exact lendE_set (as := l) h
  | .v j :: l, b, v, i, z, h => by
    simp only [arVs, List.mem_cons, not_or] at h
    have hne : j ≠ i := fun e => h.1 e.symm
    simp only [lendE]
    rw [lendE_set (as := l) h.2]
    split
    · rfl
    · rw [List.set_comm _ _ hne]
theorem noDup_cons {i : Nat} {l : List Nat} (h : noDup (i :: l) = true) : i ∉ l ∧ noDup l = true := by
  simp only [noDup, Bool.and_eq_true, Bool.not_eq_true', List.contains_eq_mem, decide_eq_false_iff_not] at h
  exact h
section
variable {K : PySem.W.Frag} {cm : Nat → Addr} {px : Px} {F H F' H' : Hp} {S R A : Set'} {v : Env} {σ : L2.St}
theorem SRs.out (h : SRs K cm px F H v σ S) {i : Nat} {d : D} (e : getV v i = some d) :
    ∃ x T S', σ[i]? = some (some x) ∧ Rep K cm F H d x T ∧ SRs K cm px F H (v.set i none) σ S' ∧ Dj S' T ∧ Sub S' S ∧ Sub T S := by
  obtain ⟨hl, hp, T, h1, h2, h3⟩ := h
  obtain ⟨x, e1, r⟩ := h3 i d (getV_some e)
  refine ⟨x, T i, fun a => S a ∧ ¬ T i a, e1, r, ⟨by simp [hl], hp, fun k => if k = i then no else T k, fun k => ?_, fun k l n => ?_, fun k d' q => ?_⟩, fun a y z => y.2 z, fun a y => y.1, h1 i⟩
  · by_cases z : k = i
    · simp only [z, if_true]; exact no_sub _
    · simp only [z, if_false]; exact fun a p => ⟨h1 k a p, fun y => h2 k i z a p y⟩
  · by_cases z : k = i
    · simp only [z, if_true]; exact no_dj _
    · by_cases y : l = i
      · simp only [y, if_true]; exact dj_no _
      · simp only [z, y, if_false]; exact h2 k l n
  · by_cases z : k = i
    · subst z
      have hk : k < v.length := by
        have := (List.getElem?_eq_some_iff.mp q).1
        simpa using this
      rw [List.getElem?_set_self hk] at q
      cases q
    · rw [List.getElem?_set_ne (Ne.symm z)] at q
      obtain ⟨y, e2, r2⟩ := h3 k d' q
      refine ⟨y, e2, ?_⟩
      simp only [z, if_false]
      exact r2
theorem SRs.uncons {d0 : Option D} {o : Env} {x0 : Option V} {τ : L2.St} (h : SRs K cm px0 F H (d0 :: o) (x0 :: τ) A) :
    ∃ A0 A1, Sub A0 A ∧ Sub A1 A ∧ Dj A0 A1 ∧ (∀ d, d0 = some d → ∃ x, x0 = some x ∧ Rep K cm F H d x A0) ∧ SRs K cm px0 F H o τ A1 := by
  obtain ⟨hl, _, T, h1, h2, h3⟩ := h
  refine ⟨T 0, fun a => ∃ k, T (k + 1) a, h1 0, fun a ⟨k, z⟩ => h1 _ a z, fun a y ⟨k, z⟩ => h2 0 (k + 1) (by omega) a y z, fun d e => ?_, ⟨by simpa using hl, PxOk.none, fun k => T (k + 1), fun k a z => ⟨k, z⟩, fun k l n => h2 _ _ (by omega), fun k d q => ?_⟩⟩
  · obtain ⟨x, e1, r⟩ := h3 0 d (by rw [e]; rfl)
    exact ⟨x, by simpa using e1, r⟩
  · obtain ⟨x, e1, r⟩ := h3 (k + 1) d (by simpa using q)
    exact ⟨x, by simpa using e1, r⟩
/-- the arguments are handed over -/
theorem lend_ok : ∀ (as : List Ar) (bv : List Bool) (v v1 : Env) (ds : List D) (F : Hp) (S R : Set') (vs : List V), Gd F H (un S R) → Dj S R → SRs K cm px F H v σ S → ArR K cm σ F H as vs R → noDup (arVs as) = true → arD as bv v = some (ds, v1) →
    ∃ F1 S1 A, Tr F H (un S R) F1 H (un S1 A) ∧ Dj S1 A ∧ RepL K cm F1 H ds vs A ∧ SRs K cm px F1 H (lendE as bv v1) σ S1
  | [], bv, v, v1, ds, F, S, R, vs, g, j, sr, r, nd, e => by
    simp only [arD, Option.some.injEq, Prod.mk.injEq] at e
    obtain ⟨rfl, rfl⟩ := e
    simp only [ArR] at r
    exact ⟨F, S, R, Tr.refl g, j, by simp only [RepL]; exact r, sr⟩
  | .d x :: as, bv, v, v1, ds, F, S, R, vs, g, j, sr, r, nd, e => by
    simp only [arD, Option.map_eq_some_iff] at e
    obtain ⟨⟨ds', v1'⟩, e, e2⟩ := e
    simp only [Prod.mk.injEq] at e2
    obtain ⟨rfl, rfl⟩ := e2
    simp only [ArR] at r
    obtain ⟨u, vs', R1, R2, rfl, s1, s2, jr, p1, p2⟩ := r
    have g2 : Gd F H (un S R2) := g.sub (un_sub (sub_l _ _) (s2.trans (sub_r _ _)))
    have gR : Gd F H R1 := g.sub (s1.trans (sub_r _ _))
    have j2 : Dj (un S R2) R1 := fun a y z => y.elim (fun y => j a y (s1 a z)) fun y => jr a z y
    obtain ⟨F1, S1, A, t, jA, rl, sr1⟩ := lend_ok as bv.tail v _ ds' F S R2 vs' g2 (j.mono (Sub.refl _) s2) sr p2 nd e
    have st := p1.stay t gR j2
    have fr := t.frame gR j2
    refine ⟨F1, S1, un R1 A, (fr.wide (un_sub (un_sub (sub_l _ _) (s2.trans (sub_r _ _))) (s1.trans (sub_r _ _)))).sub (un_sub ((sub_l _ _).trans (sub_l _ _)) (un_sub (sub_r _ _) ((sub_r _ _).trans (sub_l _ _)))), ?_, ?_, sr1⟩
    · intro a y z
      rcases z with z | z
      · exact st.2.2 a (.inl y) z
      · exact jA a y z
    · simp only [RepL]
      exact ⟨u, vs', R1, A, rfl, sub_l _ _, sub_r _ _, fun a y z => st.2.2 a (.inr z) y, st.1, rl⟩
  | .v i :: as, bv, v, v1, ds, F, S, R, vs, g, j, sr, r, nd, e => by
    obtain ⟨ni, nd'⟩ := noDup_cons nd
    simp only [arD] at e
    cases ev : getV v i with
    | none => rw [ev] at e; cases e
    | some x =>
      rw [ev] at e
      simp only [Option.bind_some] at e
      simp only [ArR] at r
      obtain ⟨u, vs', rfl, eu, p2⟩ := r
      split at e
      · rename_i hb
        simp only [Option.map_eq_some_iff] at e
        obtain ⟨⟨ds', v1'⟩, e, e2⟩ := e
        simp only [Prod.mk.injEq] at e2
        obtain ⟨rfl, rfl⟩ := e2
        obtain ⟨F', S', xv, e1, t, sr', rf⟩ := sr.frzAt (g.sub (sub_l _ _)) ev
        rw [eu] at e1
        cases e1
        have gR : Gd F H R := g.sub (sub_r _ _)
        have b := t.beside gR j
        have p2' : ArR K cm σ F' H as vs' R := arR_mono t.ex (Sub.refl _) (fun a z => rfl) p2
        obtain ⟨F1, S1, A, t2, jA, rl, sr1⟩ := lend_ok as bv.tail _ _ ds' F' S' R vs' (t.gd.un b.2.1) b.2.2 sr' p2' nd' e
        refine ⟨F1, S1, A, (t.frame gR j).trans t2, jA, ?_, ?_⟩
        · simp only [RepL]
          exact ⟨u, vs', no, A, rfl, no_sub _, Sub.refl _, no_dj _, rf.mono t2.ex _ (Sub.refl _) fun a z => z.elim, rl⟩
        · simp only [lendE, hb, if_true]
          exact sr1
      · rename_i hb
        simp only [Option.map_eq_some_iff] at e
        obtain ⟨⟨ds', v1'⟩, e, e2⟩ := e
        simp only [Prod.mk.injEq] at e2
        obtain ⟨rfl, rfl⟩ := e2
        obtain ⟨xv, T, S', e1, rx, sr', jT, sS, sT⟩ := sr.out ev
        rw [eu] at e1
        cases e1
        have gT : Gd F H T := g.sub (sT.trans (sub_l _ _))
        have g2 : Gd F H (un S' R) := g.sub (un_sub (sS.trans (sub_l _ _)) (sub_r _ _))
        have j2 : Dj (un S' R) T := fun a y z => y.elim (fun y => jT a y z) fun y => j a (sT a z) y
        have e3 : arD as bv.tail (v.set i none) = some (ds', v1'.set i none) := by rw [arD_set ni, e]; rfl
        obtain ⟨F1, S1, A, t2, jA, rl, sr1⟩ := lend_ok as bv.tail _ _ ds' F S' R vs' g2 (j.mono sS (Sub.refl _)) sr' p2 nd' e3
        have st := rx.stay t2 gT j2
        have fr := t2.frame gT j2
        refine ⟨F1, S1, un T A, (fr.wide (un_sub (un_sub (sS.trans (sub_l _ _)) (sub_r _ _)) (sT.trans (sub_l _ _)))).sub (un_sub ((sub_l _ _).trans (sub_l _ _)) (un_sub (sub_r _ _) ((sub_r _ _).trans (sub_l _ _)))), ?_, ?_, ?_⟩
        · intro a y z
          rcases z with z | z
          · exact st.2.2 a (.inl y) z
          · exact jA a y z
        · simp only [RepL]
          exact ⟨u, vs', T, A, rfl, sub_l _ _, sub_r _ _, fun a y z => st.2.2 a (.inr z) y, st.1, rl⟩
        · simp only [lendE, hb, if_false, Bool.false_eq_true]
          rw [← lendE_set ni]
          exact sr1
/-- and come back -/
theorem back_ok : ∀ (as : List Ar) (bv : List Bool) (o v : Env) (vs : List V) (S A R : Set') {F0 H0 : Hp}, ArR K cm σ F0 H0 as vs R → noDup (arVs as) = true → SRs K cm px0 F H (maskB bv o) (vs.map some) A → SRs K cm px F H (lendE as bv v) σ S → Dj S A →
    SRs K cm px F H (arB as bv o v) σ (un S A)
  | [], bv, o, v, vs, S, A, R, _, _, r, nd, so, sr, j => sr.mono (Ex.refl _) (fun _ _ => rfl) (sub_l _ _)
  | .d x :: as, bv, o, v, vs, S, A, R, _, _, r, nd, so, sr, j => by
    simp only [ArR] at r
    obtain ⟨u, vs', R1, R2, rfl, s1, s2, jr, p1, p2⟩ := r
    have hl := so.1
    cases o with
    | nil => simp [maskB] at hl
    | cons d0 o' =>
      simp only [maskB, List.map_cons] at so
      obtain ⟨A0, A1, q0, q1, q2, q3, q4⟩ := so.uncons
      simp only [arB, List.tail_cons]
      exact (back_ok as bv.tail o' v vs' S A1 R2 p2 nd q4 sr (j.mono (Sub.refl _) q1)).mono (Ex.refl _) (fun _ _ => rfl) (un_sub (sub_l _ _) (q1.trans (sub_r _ _)))
  | .v i :: as, bv, o, v, vs, S, A, R, _, _, r, nd, so, sr, j => by
    obtain ⟨ni, nd'⟩ := noDup_cons nd
    simp only [ArR] at r
    obtain ⟨u, vs', rfl, eu, p2⟩ := r
    have hl := so.1
    cases o with
    | nil => simp [maskB] at hl
    | cons d0 o' =>
      simp only [maskB, List.map_cons] at so
      obtain ⟨A0, A1, q0, q1, q2, q3, q4⟩ := so.uncons
      simp only [arB, List.tail_cons, List.headD_cons]
      by_cases hb : bv.headD false = true
      · rw [if_pos hb]
        simp only [lendE, hb, if_true] at sr
        exact (back_ok as bv.tail o' v vs' S A1 R p2 nd' q4 sr (j.mono (Sub.refl _) q1)).mono (Ex.refl _) (fun _ _ => rfl) (un_sub (sub_l _ _) (q1.trans (sub_r _ _)))
      · rw [if_neg hb]
        simp only [lendE, hb, if_false, Bool.false_eq_true] at sr q3
        have sr2 : SRs K cm px F H (lendE as bv.tail (v.set i d0)) σ (un S A0) := by
          rw [lendE_set ni]
          cases d0 with
          | none => exact sr.mono (Ex.refl _) (fun _ _ => rfl) (sub_l _ _)
          | some d =>
            obtain ⟨x, ex, rx⟩ := q3 d rfl
            cases ex
            have p := sr.put' i eu rx (j.mono (Sub.refl _) q0) (sub_l _ _) (sub_r _ _)
            rw [List.set_set] at p
            exact p
        refine (back_ok as bv.tail o' (v.set i d0) vs' (un S A0) A1 R p2 nd' q4 sr2 fun a y z => ?_).mono (Ex.refl _) (fun _ _ => rfl) (un_sub (un_sub (sub_l _ _) (q0.trans (sub_r _ _))) (q1.trans (sub_r _ _)))
        rcases y with y | y
        · exact j a y (q1 a z)
        · exact q2 a y z
end
section
variable {cm : Nat → Addr} {px : Px} {W : WX} {X : Cx} {es : List Expr} {pos p : Pos} {ar : Env → R (List Ar)} {x : Sx} {C : PI.Ctx} {s : Str} {f : Nat}
theorem call_dat (hW : Wd cm px W x C X) {k : Nat} (hr : RoomP k X.A) {a : Addr} {fd : FuncData} {ps : List Str} (hF : FnP X.prog X.w X.K X.mg X.base k a fd ps (spP X.K cm C f)) (hb : Binds X.K fd ps [])
    {pins : List (Addr × Obj)} {st : Shared} {σ : L2.St} {F H F1 H1 : Hp} {S S1 A1 : Set'} {Q : VK} {as : List Ar} {v1 : Env} {vs : List V} {us : List Value} (I : Inv X pins σ H1 st) (rv : Vals vs us)
    (q : RQ X.K cm px W (Rep X.K cm) (callC C f as v1) F H S σ Q) (t : Tr F H S F1 H1 (un S1 A1)) (j : Dj S1 A1) (sr : SRs X.K cm px F1 H1 v1 σ S1) (ra : ArR X.K cm σ F1 H1 as vs A1) :
    wpAny (model X.prog X.w) X.A (call (.ref a) us) (EP X pins σ Q) X.xe st := by
  unfold callC at q
  split at q
  · rename_i nd
    cases e : arD as (C.bv f) v1 with
    | none => rw [e] at q; exact q.elim
    | some pr =>
      obtain ⟨ds, v2⟩ := pr
      rw [e] at q
      simp only at q
      obtain ⟨F2, S2, A2, t2, j2, rl, sr2⟩ := lend_ok (K := X.K) (cm := cm) (σ := σ) as (C.bv f) v1 v2 ds F1 S1 A1 vs t.gd j sr ra nd e
      have gA : Gd F2 H1 A2 := t2.gd.sub (sub_r _ _)
      have gS : Gd F2 H1 S2 := t2.gd.sub (sub_l _ _)
      refine run_fnP (dvs := []) (ds := []) (E := WE W σ) hF hr hW.hot hb .nil (L2N.passAt hW.tk σ) I rv ?_
      rw [List.append_nil]
      refine ⟨F2, A2, ds, gA, rl, ?_⟩
      unfold CQ
      cases er : C.cf C.calm f ds with
      | err => rw [er] at q; exact q.elim
      | ret d o =>
        rw [er] at q
        simp only at q ⊢
        intro xv F3 H3 B1 B2 t3 j3 so rd
        have b := t3.beside gS j2.symm
        have fr := t3.frame gS j2.symm
        refine q xv F3 H3 (un S2 B1) B2 (t.trans (t2.trans ((fr.wide (un_sub (sub_r _ _) (sub_l _ _))).sub ?_))) ?_ ?_ rd
        · intro z y
          rcases y with (y | y) | y
          · exact .inr y
          · exact .inl (.inl y)
          · exact .inl (.inr y)
        · intro z y y'
          rcases y with y | y
          · exact b.2.2 z (.inr y') y
          · exact j3 z y y'
        · exact back_ok as (C.bv f) o v2 vs S2 B1 _ ra nd so (sr2.mono t3.ex b.1 (Sub.refl _)) fun z y y' => b.2.2 z (.inl y') y
      | exc c fs o =>
        rw [er] at q
        simp only at q ⊢
        intro F3 H3 B1 dd t3 so xr
        have b := t3.beside gS j2.symm
        have fr := t3.frame gS j2.symm
        refine q F3 H3 (un S2 B1) dd (t.trans (t2.trans ((fr.wide (un_sub (sub_r _ _) (sub_l _ _))).sub (un_sub (sub_r _ _) (sub_l _ _))))) ?_ xr
        exact back_ok as (C.bv f) o v2 vs S2 B1 _ ra nd so (sr2.mono t3.ex b.1 (Sub.refl _)) fun z y y' => b.2.2 z y' y
  · exact q.elim
theorem den_call (hW : Wd cm px W x C X) (hs : x.g.fs.lookup s = some f) (hg : x.gl s = true) {e : Expr} (ha : PA X (e :: es) (tAr X.K cm px W ar)) (hn : (e :: es).all notStar = true) :
    PE X (.Call (.Name s p) (e :: es) [] pos) (tD X.K cm px W fun v => (ar v).bind fun as v1 => callC C f as v1) := by
  obtain ⟨k, hr, hfs⟩ := hW.room
  obtain ⟨a, fd, ps, hm, hk, hb, hF⟩ := (hfs s f hs).ex
  simp only [Sx.gl, Bool.and_eq_true, decide_eq_true_eq, Bool.not_eq_true'] at hg
  have hGl := hW.glb s hg.1.1
  refine ⟨fun pins st σ H Q I ⟨F, S, v, g, sr, q⟩ => ?_⟩
  refine wpAny_Call_Name_kw (ld_glob I hGl hm ?_ hg.1.2)
  have q := q
  simp only at q
  rw [List.all_cons, Bool.and_eq_true] at hn
  refine PySem.W.callWith_K (h₀ := X.base) I.ok.mod.kin hk (thn (ha.run pos pins st σ H (fun vs H1 => ∃ F1 S1 A1 as v1, RQ X.K cm px W (Rep X.K cm) (callC C f as v1) F H S σ Q ∧ Tr F H S F1 H1 (un S1 A1) ∧ Dj S1 A1 ∧ SRs X.K cm px F1 H1 v1 σ S1 ∧ ArR X.K cm σ F1 H1 as vs A1) I
    ⟨F, S, v, g, sr, RQ.bindI q (Tr.refl g) fun as v1 vs F1 H1 S1 A1 _ q1 t1 j1 sr1 ra => ⟨F1, S1, A1, as, v1, q1, t1, j1, sr1, ra⟩⟩) fun us s1 ⟨vs, H1, I1, r, F1, S1, A1, as, v1, q1, t1, j1, sr1, ra⟩ => ⟨I1.kIn, ?_⟩) (star_cons hn.1) (star_plain hn.2)
  exact call_dat hW hr hF hb I1 r q1 t1 j1 sr1 ra
theorem den_call0 (hW : Wd cm px W x C X) (hs : x.g.fs.lookup s = some f) (hg : x.gl s = true) :
    PE X (.Call (.Name s p) [] [] pos) (tD X.K cm px W fun v => callC C f [] v) := by
  obtain ⟨k, hr, hfs⟩ := hW.room
  obtain ⟨a, fd, ps, hm, hk, hb, hF⟩ := (hfs s f hs).ex
  simp only [Sx.gl, Bool.and_eq_true, decide_eq_true_eq, Bool.not_eq_true'] at hg
  have hGl := hW.glb s hg.1.1
  refine ⟨fun pins st σ H Q I ⟨F, S, v, g, sr, q⟩ => ?_⟩
  refine wpAny_Call_Name_kw (ld_glob I hGl hm ?_ hg.1.2)
  refine PySem.W.callWith_K0 I.kIn hk ?_
  exact call_dat (us := []) hW hr hF hb I .nil q ((Tr.refl g).sub (un_sub (Sub.refl _) (no_sub _))) (dj_no _) sr (by simp only [ArR])
end
end PI
/-! PI, part l: items, slices, built-ins and methods. -/
namespace PI
open PySem PySem.Spec PyProof.Rows L2
theorem freezeL_map : ∀ l : List D, D.freezeL l = l.map D.freeze
  | [] => rfl
  | d :: l => by simp [D.freezeL, freezeL_map l]
theorem atI_map {α β : Type} (f : α → β) (l : List α) (i : Int) : atI (l.map f) i = (atI l i).map f := by
  unfold atI
  rw [List.length_map]
  cases ixN l.length i with
  | none => rfl
  | some j => simp
theorem ixD_freeze {d k x : D} (h : ixD d k = some x) : ixD d.freeze k = some x.freeze := by
  unfold ixD at h
  split at h
  · simp only [D.freeze, ixD, freezeL_map, atI_map, h, Option.map_some]
  · simp only [D.freeze, ixD, freezeL_map, atI_map, h, Option.map_some]
  · split at h
    · rename_i z
      cases e : atI (Array.toList (Str.cps _)) _ with
      | none => rw [e] at h; cases h
      | some c =>
        rw [e] at h
        cases h
        simp only [D.freeze, ixD, z, if_true, e, Option.map_some]
    · cases h
  · cases h
section
variable {K : PySem.W.Frag} {cm : Nat → Addr} {px : Px} {F H : Hp} {S : Set'}
theorem repL_atI {l : List D} {xs : List V} {i : Int} {d : D} (h : RepL K cm F H l xs S) (e : atI l i = some d) : ∃ x, atI xs i = some x ∧ Rep K cm F H d x S := by
  unfold atI at e ⊢
  rw [h.len]
  cases q : ixN l.length i with
  | none => rw [q] at e; cases e
  | some j =>
    rw [q] at e
    exact h.at e
theorem rIx_of {d k x' : D} {x y : V} {S' : Set'} {Q : VK} (e : Ex F H) (h : Rep K cm F H d x S) (hk : Rep K cm F H k y S') (q : ixD d k = some x') (hq : ∀ w, Rep K cm F H x' w S → Q w H) : rIx K x y H Q := by
  unfold ixD at q
  split at q
  · obtain ⟨a, xs, rfl, hs, hl⟩ := rep_sql e h
    simp only [Rep] at hk
    obtain ⟨w, e1, r⟩ := repL_atI hl q
    exact .inl ⟨a, xs, _, w, rfl, hk, hs, e1, hq w r⟩
  · obtain ⟨a, xs, rfl, hs, hl⟩ := rep_sqt e h
    simp only [Rep] at hk
    obtain ⟨w, e1, r⟩ := repL_atI hl q
    exact .inr (.inl ⟨a, xs, _, w, rfl, hk, hs, e1, hq w r⟩)
  · split at q
    · rename_i z
      simp only [Rep] at h hk
      simp only [Option.map_eq_some_iff] at q
      obtain ⟨c, q, rfl⟩ := q
      exact .inr (.inr ⟨_, _, c, h, hk, z, q, hq _ (by simp only [Rep])⟩)
    · cases q
  · cases q
theorem cutV_cutD {l : List D} {xs : List V} (lo hi : Option Int) (h : RepL K cm F H l xs S) : RepL K cm F H (cutD l lo hi) (cutV xs lo hi) S := by
  unfold cutD cutV
  rw [h.len]
  exact (h.drop _).take _
end
section
variable {cm : Nat → Addr} {px : Px} {W : WX} {X : Cx} {a b c : Expr} {rest es : List Expr} {pos p p2 : Pos} {ea eb ec : Env → R D} {ct cu : Env → R Bool} {x : Sx} {C : PI.Ctx} {ar : Env → R (List Ar)}
theorem den_idx (ha : PE X a (tD X.K cm px W ea)) (hb : PE X b (tD X.K cm px W eb)) (hs : notSlice b = true) :
    PE X (.Subscript a b pos) (tD X.K cm px W fun v => (ea v).bind fun x v1 => (eb v1).bind fun k v2 => .of (ixD x k) v2) := by
  refine PE_imp (pe_ix ix_seq ha hb (ix_plain hs)) fun σ H Q ⟨F, S, v, g, sr, q⟩ => ?_
  refine ⟨F, S, v, g, sr, RQ.bindI q (Tr.refl g) fun da v1 xa F1 H1 S1 A1 _ q1 t1 j1 sr1 ra => ?_⟩
  have gA := t1.gd.sub (sub_r S1 A1)
  refine ⟨F1, S1, v1, t1.left.gd, sr1, RQ.bindI q1 t1.left fun db v2 xb F2 H2 S2 B2 _ q2 t2 j2 sr2 rb => ?_⟩
  cases e : ixD da db with
  | none => rw [e] at q2; exact q2.elim
  | some d =>
    rw [e] at q2
    have st := ra.stay t2 gA j1
    have fr := t2.frame gA j1
    exact rIx_of t2.gd.ex st.1 rb e fun w r => q2 w F2 H2 S2 A1 ((t1.trans fr).sub (un_sub ((sub_l _ _).trans (sub_l _ _)) (sub_r _ _))) (fun z y y' => st.2.2 z (.inl y) y') sr2 r
theorem den_ixv {i : Nat} (ha : PE X a (tVar i)) (hb : PE X b (tD X.K cm px W eb)) (hs : notSlice b = true) :
    PE X (.Subscript a b pos) (tD X.K cm px W fun v => match getV v i with
      | some _ => (eb v).bind fun k v1 => ixV i k v1
      | none => .err) := by
  refine PE_imp (pe_ix ix_seq ha hb (ix_plain hs)) fun σ H Q ⟨F, S, v, g, sr, q⟩ => ?_
  simp only at q
  cases e0 : getV v i with
  | none => rw [e0] at q; exact q.elim
  | some d0 =>
    rw [e0] at q
    obtain ⟨xv, e1, _⟩ := sr.get e0
    refine ⟨xv, e1, F, S, v, g, sr, RQ.bindI q (Tr.refl g) fun dk v1 xk F1 H1 S1 A1 _ q1 t1 j1 sr1 rk => ?_⟩
    unfold ixV at q1
    cases e2 : getV v1 i with
    | none => rw [e2] at q1; exact q1.elim
    | some d =>
      rw [e2] at q1
      simp only at q1
      obtain ⟨xv', e3, r⟩ := sr1.get e2
      rw [e1] at e3
      cases e3
      cases e4 : ixD d dk with
      | none => rw [e4] at q1; exact q1.elim
      | some y =>
        rw [e4] at q1
        simp only at q1
        split at q1
        · rename_i z
          exact rIx_of t1.gd.ex r rk e4 fun w rw => q1 w F1 H1 S1 no (t1.left.sub (un_sub (Sub.refl _) (no_sub _))) (dj_no _) sr1 (rw.frozen _ z)
        · obtain ⟨F2, S2, xv2, e5, t2, sr2, rf⟩ := sr1.frzAt t1.left.gd e2
          rw [e1] at e5
          cases e5
          have rk2 : Rep X.K cm F2 H1 dk xk A1 := rk.mono t2.ex dk (Sub.refl _) fun _ _ => rfl
          exact rIx_of t2.gd.ex rf rk2 (ixD_freeze e4) fun w rw => q1 w F2 H1 S2 no ((t1.left.trans t2).sub (un_sub (Sub.refl _) (no_sub _))) (dj_no _) sr2 rw
/-! ### slices -/
theorem PO_imp {e : Option Expr} {t t' : TO} (h : PO X e t) (k : ∀ σ H Q, t' σ H Q → t σ H Q) : PO X e t' := ⟨fun pins s σ H Q I q => h.run pins s σ H Q I (k σ H Q q)⟩
abbrev tOi (K : PySem.W.Frag) (cm : Nat → Addr) (px : Px) (W : WX) (ev : Env → R (Option Int)) : TO := tR K cm px W rpO ev
theorem den_noPart : PO X none (tOi X.K cm px W fun v => .ok none v) := by
  refine PO_imp po_none fun σ H Q ⟨F, S, v, g, sr, q⟩ => ?_
  exact q none F H S no ((Tr.refl g).sub (un_sub (Sub.refl _) (no_sub _))) (dj_no _) sr rfl
theorem den_part (ha : PE X a (tD X.K cm px W ea)) : PO X (some a) (tOi X.K cm px W fun v => (ea v).bind fun x v1 => .of ((toI x).map some) v1) := by
  refine PO_imp (po_some ha) fun σ H Q ⟨F, S, v, g, sr, q⟩ => ?_
  refine ⟨F, S, v, g, sr, RQ.bindI q (Tr.refl g) fun da v1 xa F1 H1 S1 A1 _ q1 t1 j1 sr1 ra => ?_⟩
  cases da with
  | int i =>
    simp only [Rep] at ra
    exact ⟨i, ra, q1 (some i) F1 H1 S1 no (t1.left.sub (un_sub (Sub.refl _) (no_sub _))) (dj_no _) sr1 rfl⟩
  | _ => exact q1.elim
def rSlD (K : PySem.W.Frag) (cm : Nat → Addr) : V → Option Int → Option Int → Hp → VK → Prop := fun x lo hi H Q => ∃ F d d' S, Ex F H ∧ Rep K cm F H d x S ∧ slcD d lo hi = some d' ∧ PR K cm F H d' Q
theorem sl_dat : SlR X (rSlD X.K cm) := by
  intro pins s σ H x v vl vu lo hi sl Q I rx hs pl pu ⟨F, d, d', S, e, r, hd, q⟩
  unfold slcD at hd
  split at hd
  · split at hd <;> cases hd
    rename_i z
    simp only [Rep] at r
    exact sl_str pins s σ H x v vl vu lo hi sl Q I rx hs pl pu ⟨_, r, z, q.str e⟩
  · split at hd <;> cases hd
    rename_i z
    obtain ⟨a, xs, rfl, hs', hl⟩ := rep_sql e r
    exact sl_list pins s σ H _ v vl vu lo hi sl Q I rx hs pl pu ⟨a, xs, rfl, hs', fun p hp => PR.lst e (cutV_cutD lo hi (frzL z hl)) q hp⟩
  · split at hd <;> cases hd
    rename_i z
    simp only [Bool.and_eq_true, decide_eq_true_eq] at z
    obtain ⟨a, xs, rfl, hs', hl⟩ := rep_sqt e r
    refine sl_tup pins s σ H _ v vl vu lo hi sl Q I rx hs pl pu ⟨a, xs, rfl, hs', fun ⟨y1, y2⟩ => ?_, fun p hp => PR.tup e (cutV_cutD lo hi (frzL z.1 hl)) q hp⟩
    have z2 := z.2
    unfold cutD at z2
    rw [← hl.len, y1, y2, Nat.sub_zero, List.drop_zero, List.length_take, hl.len] at z2
    omega
  · cases hd
theorem den_slc {lo hi : Option Expr} {el eh : Env → R (Option Int)} (ha : PE X a (tD X.K cm px W ea)) (hl : PO X lo (tOi X.K cm px W el)) (hh : PO X hi (tOi X.K cm px W eh)) :
    PE X (.Subscript a (.Slice lo hi none p2) pos) (tD X.K cm px W fun v => (ea v).bind fun x v1 => (el v1).bind fun l v2 => (eh v2).bind fun h v3 => .of (slcD x l h) v3) := by
  refine PE_imp (pe_slice (sl_dat (cm := cm)) ha hl hh) fun σ H Q ⟨F, S, v, g, sr, q⟩ => ?_
  refine ⟨F, S, v, g, sr, RQ.bindI q (Tr.refl g) fun da v1 xa F1 H1 S1 A1 _ q1 t1 j1 sr1 ra => ?_⟩
  have gA := t1.gd.sub (sub_r S1 A1)
  refine ⟨F1, S1, v1, t1.left.gd, sr1, RQ.bindI q1 t1.left fun l v2 xl F2 H2 S2 B2 _ q2 t2 j2 sr2 rl => ?_⟩
  obtain rfl : xl = l := rl
  have st := ra.stay t2.left gA j1
  refine ⟨F2, S2, v2, t2.left.gd, sr2, RQ.bindI q2 (t1.left.trans t2.left) fun h v3 xh F3 H3 S3 B3 _ q3 t3 j3 sr3 rh => ?_⟩
  obtain rfl : xh = h := rh
  have st2 := st.1.stay t3.left st.2.1 st.2.2
  cases e : slcD da xl xh with
  | none => rw [e] at q3; exact q3.elim
  | some d =>
    rw [e] at q3
    exact ⟨F3, da, d, A1, t3.gd.ex, st2.1, e, RQ.fin q3 ((t1.left.trans t2.left).trans t3.left) sr3⟩
/-! ### built-in functions -/
theorem pe_callBi {r : List V → Hp → VK → Prop} {e : Expr} {t : TA} (b : Bi) (hc : CallR X (biV b) r) (hg : Gl X (biN b)) (hm : b ≠ .gcd → X.mg (biN b) = none) (hm2 : b = .gcd → X.mg "gcd" = some (.builtin "math.gcd")) (ha : PA X (e :: es) t) (hn : (e :: es).all notStar = true) :
    PE X (.Call (.Name (biN b) p) (e :: es) [] pos) (tCB r t) := by
  rw [List.all_cons, Bool.and_eq_true] at hn
  have h1 := star_cons (env := X.env) (es := es) hn.1
  have h2 := star_plain (env := X.env) (pos := pos) hn.2
  cases b with
  | len => exact pe_callB hc hg (hm (by decide)) rfl ha (he := h1) (hpl := h2)
  | abs => exact pe_callB hc hg (hm (by decide)) rfl ha (he := h1) (hpl := h2)
  | max => exact pe_callB hc hg (hm (by decide)) rfl ha (he := h1) (hpl := h2)
  | min => exact pe_callB hc hg (hm (by decide)) rfl ha (he := h1) (hpl := h2)
  | repr => exact pe_callB hc hg (hm (by decide)) rfl ha (he := h1) (hpl := h2)
  | gcd => exact pe_callBfun hc hg (hm2 rfl) ha (he := h1) (hpl := h2)
  | int => exact pe_callTy hc hg (hm (by decide)) rfl ha (he := h1) (hpl := h2)
  | str => exact pe_callTy hc hg (hm (by decide)) rfl ha (he := h1) (hpl := h2)
  | tuple => exact pe_callTy hc hg (hm (by decide)) rfl ha (he := h1) (hpl := h2)
  | list => exact pe_callTy hc hg (hm (by decide)) rfl ha (he := h1) (hpl := h2)
theorem biN_blt {b : Bi} (h : b ≠ .gcd) : biN b ∈ bltNames := by cases b <;> first | (exact absurd rfl h) | (simp [biN, bltNames])
theorem room_units {k : Nat} (h : RoomP k X.A) : X.A.units + 100 < cLine := by
  have := h.rm.un
  omega
theorem Wd.bi (hW : Wd cm px W x C X) (b : Bi) (hc : biCalm b = true → C.calm = true) : CallR X (biV b) (rB X.K cm b) := by
  obtain ⟨k, hr, _⟩ := hW.room
  refine call_biD b hW.dig hr.gd (room_units hr) fun z => ?_
  have h2 : C.calm = true := hc (by rcases z with z | z <;> subst z <;> rfl)
  have h3 := hW.hot
  rw [h2] at h3
  exact h3
theorem den_bi {e : Expr} (hW : Wd cm px W x C X) (b : Bi) (hg : x.gl (biN b) = true) (hgc : b = .gcd → x.g.gc = true) (ha : PA X (e :: es) (tAr X.K cm px W ar)) (hn : (e :: es).all notStar = true) :
    PE X (.Call (.Name (biN b) p) (e :: es) [] pos) (tD X.K cm px W fun v => if biCalm b && !C.calm then .err else (ar v).bind fun as v1 => (R.of (arAll as) v1).bind fun l v2 => .of (biF b l) v2) := by
  simp only [Sx.gl, Bool.and_eq_true, decide_eq_true_eq, Bool.not_eq_true'] at hg
  by_cases hcc : (biCalm b && !C.calm) = true
  · simp only [hcc, if_true]
    exact ⟨fun pins st σ H Q I ⟨F, S, v, g, sr, q⟩ => q.elim⟩
  · have hc : biCalm b = true → C.calm = true := fun z => by
      cases y : C.calm with
      | true => rfl
      | false => rw [z, y] at hcc; exact absurd rfl hcc
    refine PE_imp (pe_callBi b (hW.bi b hc) (hW.glb _ hg.1.1) (fun z => hW.blt _ (biN_blt z)) (fun z => hW.gcd (hgc z)) ha hn) fun σ H Q ⟨F, S, v, g, sr, q⟩ => ?_
    simp only [hcc, if_false] at q
    refine ⟨F, S, v, g, sr, RQ.bindI q (Tr.refl g) fun as v1 vs F1 H1 S1 A1 _ q1 t1 j1 sr1 ra => ?_⟩
    cases e : arAll as with
    | none => rw [e] at q1; exact q1.elim
    | some l =>
      rw [e] at q1
      simp only [R.of_some, R.bind_ok] at q1
      cases e2 : biF b l with
      | none => rw [e2] at q1; exact q1.elim
      | some d =>
        rw [e2] at q1
        exact ⟨F1, l, d, A1, t1.gd.ex, arAll_ar e ra, e2, RQ.fin q1 t1.left sr1⟩
theorem den_biv {i : Nat} (hW : Wd cm px W x C X) (b : Bi) (hg : x.gl (biN b) = true) (hgc : b ≠ .gcd) (ha : PE X a (tVar i)) (hn : notStar a = true) :
    PE X (.Call (.Name (biN b) p) [a] [] pos) (tD X.K cm px W fun v => if biCalm b then .err else match getV v i with
      | some d => .of (biF b [d]) v
      | none => .err) := by
  simp only [Sx.gl, Bool.and_eq_true, decide_eq_true_eq, Bool.not_eq_true'] at hg
  by_cases hcc : biCalm b = true
  · simp only [hcc, if_true]
    exact ⟨fun pins st σ H Q I ⟨F, S, v, g, sr, q⟩ => q.elim⟩
  · refine PE_imp (pe_callBi b (hW.bi b fun z => absurd z hcc) (hW.glb _ hg.1.1) (fun z => hW.blt _ (biN_blt z)) (fun z => absurd z hgc) (pa_cons ha pa_nil (star_cons hn)) (by simp [hn])) fun σ H Q ⟨F, S, v, g, sr, q⟩ => ?_
    simp only [hcc, if_false] at q
    cases e : getV v i with
    | none => rw [e] at q; exact q.elim
    | some d =>
      rw [e] at q
      simp only at q
      obtain ⟨xv, e1, r⟩ := sr.get e
      refine ⟨xv, e1, ?_⟩
      cases e2 : biF b [d] with
      | none => rw [e2] at q; exact q.elim
      | some d' =>
        rw [e2] at q
        refine ⟨F, [d], d', S, g.ex, ?_, e2, RQ.fin q (Tr.refl g) sr⟩
        simp only [RepL]
        exact ⟨xv, [], S, no, rfl, Sub.refl _, no_sub _, dj_no _, r, rfl⟩
/-! ### methods -/
def bmI : Bm → String
  | .find => "str.find" | .partition => "str.partition" | .join => "str.join"
def rM (K : PySem.W.Frag) (cm : Nat → Addr) (m : Bm) : V → List V → Hp → VK → Prop := fun x vs H Q => ∃ F z ds d S, x = .str z ∧ Ex F H ∧ RepL K cm F H ds vs S ∧ bmF m (.str z) ds = some d ∧ PR K cm F H d Q
theorem strs_rep {K : PySem.W.Frag} {F H : Hp} : ∀ {l : List D} {xs : List V} {S : Set'} {zs : List Str}, RepL K cm F H l xs S → strsOf l = some zs → xs = zs.map V.str
  | [], _, _, _, h, q => by simp only [RepL, strsOf] at h q; cases q; subst h; rfl
  | d :: l, xs, S, zs, h, q => by
    cases d <;> simp only [strsOf] at q <;> try (cases q; done)
    simp only [Option.map_eq_some_iff] at q
    obtain ⟨zs', q, rfl⟩ := q
    simp only [RepL] at h
    obtain ⟨x, r, S1, S2, rfl, _, _, _, p1, p2⟩ := h
    simp only [Rep] at p1
    rw [p1, strs_rep p2 q]
    rfl
theorem mt_dat (m : Bm) : MtR X (bmI m) (rM X.K cm m) := by
  intro pins s σ H x xs v us Q I rx rs ⟨F, z, ds, d, S, hx, e, hr, hb, q⟩
  subst hx
  unfold bmF at hb
  split at hb
  · rename_i heq
    cases heq
    obtain ⟨y, rfl, h⟩ := repL1 hr
    simp only [Rep] at h
    cases hb
    exact mt_find pins s σ H _ _ v us Q I rx rs ⟨_, _, rfl, by rw [h], q.int e⟩
  · rename_i heq
    cases heq
    obtain ⟨y, rfl, h⟩ := repL1 hr
    simp only [Rep] at h
    split at hb <;> cases hb
    rename_i w
    refine mt_partition pins s σ H _ _ v us Q I rx rs ⟨_, _, rfl, by rw [h], by simpa using w.1, w.2, fun p hp => PR.tup e ?_ q hp⟩
    simp only [RepL]
    exact ⟨_, _, no, no, rfl, no_sub _, no_sub _, no_dj _, by simp only [Rep], _, _, no, no, rfl, no_sub _, no_sub _, no_dj _, by simp only [Rep], _, _, no, no, rfl, no_sub _, no_sub _, no_dj _, by simp only [Rep], rfl⟩
  · rename_i heq
    cases heq
    obtain ⟨y, rfl, h⟩ := repL1 hr
    simp only [Option.bind_eq_some_iff] at hb
    obtain ⟨zs, hz, hb⟩ := hb
    split at hb <;> cases hb
    rename_i w
    obtain ⟨a, xs', rfl, hs, hl⟩ := rep_sql e h
    rw [strs_rep hl hz] at hs
    exact mt_join pins s σ H _ _ v us Q I rx rs ⟨_, a, zs, rfl, rfl, .inl hs, w, q.str e⟩
  · cases hb
theorem bm_slot (m : Bm) : Slot "str" (bmN m) (bmI m) ∧ typeOf (.builtin (bmI m)) = pure (.type "method_descriptor") := by
  cases m
  · exact ⟨F.slot_str_find, rfl⟩
  · exact ⟨F.slot_str_partition, rfl⟩
  · exact ⟨F.slot_str_join, rfl⟩
theorem den_bm {o e : Expr} {eo : Env → R D} {apos cpos : Pos} (m : Bm) (ho : PE X o (tD X.K cm px W eo)) (ha : PA X (e :: es) (tAr X.K cm px W ar)) (hn : (e :: es).all notStar = true) (hc : notCall o = true) (hl : (apos.endLine == cpos.line) = true) (hf : (e :: es).length < 30) :
    PE X (.Call (.Attribute o (bmN m) apos) (e :: es) [] cpos) (tD X.K cm px W fun v => (eo v).bind fun x v1 => (R.of (toS x) v1).bind fun z v1 => (ar v1).bind fun as v2 => (R.of (arAll as) v2).bind fun l v3 => .of (bmF m (.str z) l) v3) := by
  have hn' := hn
  rw [List.all_cons, Bool.and_eq_true] at hn'
  refine PE_imp (pe_bm F.plainAttrs_str (bm_slot m).1 (bm_slot m).2 (mt_dat (cm := cm) m) ho ha (base_plain hc) (few_plain hn hf) hl (star_cons hn'.1) (star_plain hn'.2)) fun σ H Q ⟨F, S, v, g, sr, q⟩ => ?_
  refine ⟨F, S, v, g, sr, RQ.bindI q (Tr.refl g) fun da v1 xa F1 H1 S1 A1 _ q1 t1 j1 sr1 ra => ?_⟩
  cases e0 : toS da with
  | none => rw [e0] at q1; exact q1.elim
  | some z =>
    rw [e0] at q1
    simp only [R.of_some, R.bind_ok] at q1
    have hx : xa = .str z := by cases da <;> simp only [toS] at e0 <;> first | (cases e0; done) | (cases e0; simpa only [Rep] using ra)
    subst hx
    refine ⟨rfl, F1, S1, v1, t1.left.gd, sr1, RQ.bindI q1 t1.left fun as v2 vs F2 H2 S2 B2 _ q2 t2 j2 sr2 rb => ?_⟩
    cases e : arAll as with
    | none => rw [e] at q2; exact q2.elim
    | some l =>
      rw [e] at q2
      simp only [R.of_some, R.bind_ok] at q2
      cases e2 : bmF m (.str z) l with
      | none => rw [e2] at q2; exact q2.elim
      | some d =>
        rw [e2] at q2
        exact ⟨F2, z, l, d, B2, rfl, t2.gd.ex, arAll_ar e rb, e2, RQ.fin q2 (t1.left.trans t2.left) sr2⟩
end
end PI
/-! PI, part m: iteration, targets, comprehensions. -/
namespace PI
open PySem PySem.Spec PyProof.Rows L2
theorem fz_id {o : Ow} (h : o ≠ .own) : D.fz o = o := by cases o <;> first | rfl | exact absurd rfl h
mutual
theorem freeze_id : ∀ (d : D), d.frozen = true → d.freeze = d
  | .non, _ | .bl _, _ | .int _, _ | .str _, _ => by simp [D.freeze]
  | .tup l, h => by simp only [D.frozen] at h; simp only [D.freeze, freezeL_id l h]
  | .lst o l, h => by
    simp only [D.frozen, Bool.and_eq_true, decide_eq_true_eq] at h
    simp only [D.freeze, freezeL_id l h.2, fz_id h.1]
  | .dct o l, h => by
    simp only [D.frozen, Bool.and_eq_true, decide_eq_true_eq] at h
    simp only [D.freeze, freezeK_id l h.2, fz_id h.1]
  | .ins o c l, h => by
    simp only [D.frozen, Bool.and_eq_true, decide_eq_true_eq] at h
    simp only [D.freeze, freezeF_id l h.2, fz_id h.1]
theorem freezeL_id : ∀ (l : List D), D.frozenL l = true → D.freezeL l = l
  | [], _ => rfl
  | d :: l, h => by
    simp only [D.frozenL, Bool.and_eq_true] at h
    simp only [D.freezeL, freeze_id d h.1, freezeL_id l h.2]
theorem freezeK_id : ∀ (l : List (Key × D)), D.frozenK l = true → D.freezeK l = l
  | [], _ => rfl
  | (k, d) :: l, h => by
    simp only [D.frozenK, Bool.and_eq_true] at h
    simp only [D.freezeK, freeze_id d h.1, freezeK_id l h.2]
theorem freezeF_id : ∀ (l : List (Str × D)), D.frozenF l = true → D.freezeF l = l
  | [], _ => rfl
  | (k, d) :: l, h => by
    simp only [D.frozenF, Bool.and_eq_true] at h
    simp only [D.freezeF, freeze_id d h.1, freezeF_id l h.2]
end
section
variable {K : PySem.W.Frag} {cm : Nat → Addr} {px : Px} {F H F1 H1 : Hp} {S A B T : Set'} {v : Env} {σ : L2.St}
/-- what nobody else knows is frozen -/
theorem Tr.froze (g : Gd F H (un S A)) (j : Dj S A) : Tr F H (un S A) (fzH F H A) H S := by
  have dj : ∀ a, A a → F a = none := fun a z => g.dj a (.inr z)
  refine ⟨fzH_ex dj, ⟨fzH_le g.ex, fun a z => by rw [fzH_out fun y => j a z y]; exact g.dj a (.inl z), fun a z => g.dom a (.inl z)⟩, fun a z => .inl (.inl z), fun a o q _ => q, fun a o q => ?_⟩
  by_cases z : A a
  · exact .inr (.inl (.inr z))
  · rw [fzH_out z] at q
    exact .inl q
theorem Rep.froze {d : D} {x : V} {H' : Hp} (g : Gd F H A) (r : Rep K cm F H d x A) : Rep K cm (fzH F H A) H' d.freeze x no :=
  r.freeze (fzH_ex fun a z => g.dj a z) d fun a o z q => by rw [fzH_in z]; exact q
def Yl (K : PySem.W.Frag) (cm : Nat → Addr) (J : It) (F : Hp) (ds : List D) : Prop :=
  ∀ H, Ex F H → J.stop ds.length H ∧ ∀ i d, ds[i]? = some d → J.go i H ∧ ∀ x H', J.yld i H x H' → H' = H ∧ Rep K cm F H d x no
theorem yl_list {a : Addr} {l : List D} {xs : List V} (h : SqL K F a xs) (r : RepL K cm F F1 l xs no) : Yl K cm (Itl K a) F l := by
  intro H e
  have hq := ex_l e h
  refine ⟨⟨xs, hq, by rw [r.len]; exact Nat.le_refl _⟩, fun i d q => ?_⟩
  obtain ⟨x, e1, rx⟩ := r.at q
  refine ⟨⟨xs, x, hq, e1⟩, fun y H' ⟨e2, e3⟩ => ⟨e2, ?_⟩⟩
  have := e3 xs hq
  rw [e1] at this
  cases this
  exact rx.mono (Ex.refl _) d (Sub.refl _) fun a z => z.elim
theorem yl_tup {a : Addr} {l : List D} {xs : List V} (h : SqT K F a xs) (r : RepL K cm F F1 l xs no) : Yl K cm (Itt K a) F l := by
  intro H e
  have hq := ex_t e h
  refine ⟨⟨xs, hq, by rw [r.len]; exact Nat.le_refl _⟩, fun i d q => ?_⟩
  obtain ⟨x, e1, rx⟩ := r.at q
  refine ⟨⟨xs, x, hq, e1⟩, fun y H' ⟨e2, e3⟩ => ⟨e2, ?_⟩⟩
  have := e3 xs hq
  rw [e1] at this
  cases this
  exact rx.mono (Ex.refl _) d (Sub.refl _) fun a z => z.elim
theorem yl_str {z : Str} : Yl K cm (Its z) F (z.cps.toList.map fun c => .str ⟨#[c]⟩) := by
  intro H e
  refine ⟨by show z.cps.size ≤ _; simp, fun i d q => ?_⟩
  rw [List.getElem?_map, Option.map_eq_some_iff] at q
  obtain ⟨c, q, rfl⟩ := q
  have q' : z.cps[i]? = some c := by simpa using q
  refine ⟨?_, fun y H' ⟨e2, c', e3, e4⟩ => ⟨e2, ?_⟩⟩
  · show i < z.cps.size
    exact (Array.getElem?_eq_some_iff.mp q').1
  · rw [q'] at e3
    cases e3
    simp only [Rep]
    exact e4
theorem yl_rng {lo : Int} {n : Nat} : Yl K cm (Itr lo n) F ((List.range n).map fun (k : Nat) => D.int (lo + k)) := by
  intro H e
  refine ⟨by show n ≤ _; simp, fun i d q => ?_⟩
  rw [List.getElem?_map, Option.map_eq_some_iff] at q
  obtain ⟨c, q, rfl⟩ := q
  obtain ⟨q1, q2⟩ := List.getElem?_eq_some_iff.mp q
  rw [List.length_range] at q1
  rw [List.getElem_range] at q2
  subst q2
  refine ⟨q1, fun y H' ⟨e2, e4⟩ => ⟨e2, ?_⟩⟩
  simp only [Rep]
  exact e4
theorem Yl.ex {J : It} {l : List D} (h : Yl K cm J F l) (e : Ex F F1) : Yl K cm J F1 l := fun H e' => by
  have := h H (e.trans e')
  refine ⟨this.1, fun i d q => ⟨(this.2 i d q).1, fun x H' y => ?_⟩⟩
  obtain ⟨e1, r⟩ := (this.2 i d q).2 x H' y
  exact ⟨e1, r.mono e d (Sub.refl _) fun _ _ => rfl⟩
end
section
variable {cm : Nat → Addr} {px : Px} {W : WX} {X : Cx} {a b c tg : Expr} {rest es : List Expr} {pos p p2 : Pos} {ea eb ec : Env → R D} {ct cu : Env → R Bool} {x : Sx} {C : PI.Ctx} {ar : Env → R (List Ar)}
def iSeq (K : PySem.W.Frag) (tl : TE) : TI := fun σ H R => tl σ H fun x H1 =>
  (∃ a xs, x = .ref a ∧ SqL K H1 a xs ∧ R (Itl K a) H1) ∨ (∃ a xs, x = .ref a ∧ SqT K H1 a xs ∧ R (Itt K a) H1) ∨ ∃ z, x = .str z ∧ R (Its z) H1
theorem pi_seq {tl : TE} (hl : PE X a tl) : PI X tg a (iSeq X.K tl) := by
  constructor
  intro pins s σ H R I h
  refine thn (hl.run pins s σ H _ I h) ?_
  rintro v s1 ⟨x, H1, I1, r1, q1⟩
  rcases q1 with ⟨a, xs, rfl, hq, q⟩ | ⟨a, xs, rfl, hq, q⟩ | ⟨z, rfl, q⟩
  · cases r1
    obtain ⟨its, rv, p, hz⟩ := I1.list hq
    exact wpAny_pyIter_list p.isList (pi_one (tk := s1.toks) I1 _ (turn_list a _) ⟨_, Heap.get?_push_size _ rfl, rfl, rfl⟩ q)
  · cases r1
    obtain ⟨its, rv, p, hz⟩ := I1.tuple hq
    exact wpAny_pyIter_tuple (show s1.heap.IsTuple a its.toArray from p) (pi_one (tk := s1.toks) I1 _ (turn_tuple a _) ⟨_, Heap.get?_push_size _ rfl, rfl, rfl⟩ q)
  · obtain ⟨t, rfl⟩ := r1
    cases ha : z.cps.all (· < 128)
    · exact wpAny_pyIter_wide ha (pi_one (tk := s1.toks) I1 _ (turn_str _ z t "str_iterator" (Or.inr rfl)) ⟨_, Heap.get?_push_size _ rfl, rfl, rfl⟩ q)
    · exact wpAny_pyIter_ascii ha (pi_one (tk := s1.toks) I1 _ (turn_str _ z t "str_ascii_iterator" (Or.inl rfl)) ⟨_, Heap.get?_push_size _ rfl, rfl, rfl⟩ q)
theorem PI_imp {t t' : TI} (h : PI X tg a t) (k : ∀ σ H Q, t' σ H Q → t σ H Q) : PI X tg a t' := ⟨fun pins s σ H Q I q => h.run pins s σ H Q I (k σ H Q q)⟩
abbrev tIt (K : PySem.W.Frag) (cm : Nat → Addr) (px : Px) (W : WX) (ev : Env → R (List D)) : TI := tR K cm px W (fun F _ ds J _ => Yl K cm J F ds) ev
theorem den_ov (ha : PE X a (tD X.K cm px W ea)) : PI X tg a (tIt X.K cm px W fun v => (ea v).bind fun x v1 => .of (itemsD x) v1) := by
  refine PI_imp (pi_seq ha) fun σ H Q ⟨F, S, v, g, sr, q⟩ => ?_
  refine ⟨F, S, v, g, sr, RQ.bindI q (Tr.refl g) fun da v1 xa F1 H1 S1 A1 _ q1 t1 j1 sr1 ra => ?_⟩
  have t2 := Tr.froze t1.gd j1
  have gA := t1.gd.sub (sub_r S1 A1)
  have rf : Rep X.K cm (fzH F1 H1 A1) (fzH F1 H1 A1) da.freeze xa no := ra.froze gA
  have sr2 := sr1.mono t2.ex (fun _ _ => rfl) (Sub.refl _)
  have fin : ∀ {l : List D} {J : It}, RQ X.K cm px W (fun F _ ds J _ => Yl X.K cm J F ds) (.ok l v1) F H S σ Q → Yl X.K cm J (fzH F1 H1 A1) l → Q J H1 := fun {l J} q2 y =>
    q2 J _ H1 S1 no ((t1.trans t2).sub (un_sub (Sub.refl _) (no_sub _))) (dj_no _) sr2 y
  cases da with
  | lst o l =>
    simp only [itemsD] at q1
    split at q1
    · rename_i z
      obtain ⟨a, xs, rfl, hs, hl⟩ := rep_sql (Ex.refl _) (by simpa only [D.freeze] using rf)
      rw [freezeL_id l z] at hl
      exact .inl ⟨a, xs, rfl, ex_l t2.gd.ex hs, fin q1 (yl_list hs hl)⟩
    · exact q1.elim
  | tup l =>
    simp only [itemsD] at q1
    split at q1
    · rename_i z
      obtain ⟨a, xs, rfl, hs, hl⟩ := rep_sqt (Ex.refl _) (by simpa only [D.freeze] using rf)
      rw [freezeL_id l z] at hl
      exact .inr (.inl ⟨a, xs, rfl, ex_t t2.gd.ex hs, fin q1 (yl_tup hs hl)⟩)
    · exact q1.elim
  | str z =>
    simp only [Rep] at ra
    exact .inr (.inr ⟨z, ra, fin q1 yl_str⟩)
  | _ => exact q1.elim
def iRng (ta : TA) : TI := fun σ H R => ta σ H fun vs H1 => (∃ j : Int, vs = [.int j] ∧ -(2 ^ 62) ≤ j ∧ j < 2 ^ 62 ∧ R (Itr 0 j.toNat) H1) ∨ ∃ i j : Int, vs = [.int i, .int j] ∧ (-(2 ^ 62) ≤ i ∧ i < 2 ^ 62 ∧ -(2 ^ 62) ≤ j ∧ j < 2 ^ 62) ∧ R (Itr i (j - i).toNat) H1
theorem pi_rng {e : Expr} {ta : TA} (hg : Gl X "range") (hm : X.mg "range" = none) (ha : PA X (e :: es) ta) (hn : (e :: es).all notStar = true) : PI X tg (.Call (.Name "range" p) (e :: es) [] pos) (iRng ta) := by
  rw [List.all_cons, Bool.and_eq_true] at hn
  constructor
  intro pins s σ H R I h
  refine Call_ (ld_blt I hg hm boot_range (PyProof.Rows.callWith_type1 (thn (ha.run pos pins s σ H _ I h) ?_) (star_cons hn.1) (star_plain hn.2)))
  rintro us s1 ⟨vs, H1, I1, r1, q1⟩
  rcases q1 with ⟨j, rfl, z1, z2, q⟩ | ⟨i, j, rfl, ⟨z1, z2, z3, z4⟩, q⟩
  · obtain ⟨u, rfl, t, rfl⟩ := vals1 r1
    exact call_range_1 (range_it I1 (by omega) (by omega) z1 z2 (by simpa using q))
  · obtain ⟨t, u, rfl⟩ := Vals.int2 r1
    exact call_range_2 (range_it I1 z1 z2 z3 z4 q)
theorem den_rng {e : Expr} (hW : Wd cm px W x C X) (hg : x.gl "range" = true) (ha : PA X (e :: es) (tAr X.K cm px W ar)) (hn : (e :: es).all notStar = true) :
    PI X tg (.Call (.Name "range" p) (e :: es) [] pos) (tIt X.K cm px W fun v => (ar v).bind fun as v1 => (R.of (arAll as) v1).bind fun l v2 => .of (rngD l) v2) := by
  simp only [Sx.gl, Bool.and_eq_true, decide_eq_true_eq, Bool.not_eq_true'] at hg
  refine PI_imp (pi_rng (hW.glb _ hg.1.1) (hW.blt _ (by simp [bltNames])) ha hn) fun σ H Q ⟨F, S, v, g, sr, q⟩ => ?_
  refine ⟨F, S, v, g, sr, RQ.bindI q (Tr.refl g) fun as v1 vs F1 H1 S1 A1 _ q1 t1 j1 sr1 ra => ?_⟩
  cases e : arAll as with
  | none => rw [e] at q1; exact q1.elim
  | some l =>
    rw [e] at q1
    simp only [R.of_some, R.bind_ok] at q1
    have rl := arAll_ar e ra
    have fin : ∀ {l : List D} {J : It}, RQ X.K cm px W (fun F _ ds J _ => Yl X.K cm J F ds) (.ok l v1) F H S σ Q → Yl X.K cm J F1 l → Q J H1 := fun {l J} q2 y =>
      q2 J _ H1 S1 no (t1.left.sub (un_sub (Sub.refl _) (no_sub _))) (dj_no _) sr1 y
    unfold rngD at q1
    split at q1
    · split at q1
      · rename_i z
        obtain ⟨y, rfl, ry⟩ := repL1 rl
        simp only [Rep] at ry
        refine .inl ⟨_, by rw [ry], z.1, z.2, fin q1 ?_⟩
        have h := @yl_rng X.K cm F1 0 (Int.toNat ‹Int›)
        simpa using h
      · exact q1.elim
    · split at q1
      · rename_i z
        obtain ⟨y, w, rfl, ry, rw'⟩ := repL2 rl
        simp only [Rep] at ry rw'
        exact .inr ⟨_, _, by rw [ry, rw'], z, fin q1 yl_rng⟩
      · exact q1.elim
    · exact q1.elim
/-! ### targets -/
def gNs : List Nat → TGs
  | [] => gNil
  | i :: is => gCons (gName i) (gNs is)
/-- the context of a def or a block, as far as targets go -/
structure Wn (x : Sx) (X : Cx) : Prop where
  names : X.N = x.N
  nd : X.N.Nodup
  sto : ∀ s, stoB (x.sc.names.lookup s) = true → Loc X.env.scope s ∧ (X.fn s = true ∨ X.env.scope.names.lookup s = some .local)
theorem Wd.wn (h : Wd cm px W x C X) : Wn x X := ⟨h.names, h.nd, h.sto⟩
theorem pg_st (hW : Wn x X) {i : Nat} {s : Str} (h : x.st i s = true) : PG X (.Name s p) (gName i) := by
  simp only [Sx.st, Bool.and_eq_true, decide_eq_true_eq] at h
  obtain ⟨h1, h2⟩ := hW.sto s h.2
  exact pg_name hW.nd (by rw [hW.names]; exact h.1) h1 h2
theorem pgs_st (hW : Wn x X) : ∀ {is : List Nat} {es : List Expr}, isTgs x is es = true → PGs X es (gNs is) ∧ (assignEach es X.env).length = is.length ∧ (assignEach es X.env).findIdx? (·.1) = none
  | [], [], _ => ⟨pgs_nil, rfl, rfl⟩
  | [], _ :: _, h => by simp [isTgs] at h
  | i :: is, [], h => by simp [isTgs] at h
  | i :: is, e :: es, h => by
    cases e with
    | Name s q =>
      simp only [isTgs, Bool.and_eq_true] at h
      obtain ⟨h1, h2, h3⟩ := pgs_st hW h.2
      refine ⟨pgs_cons (pg_st hW h.1) h1, ?_, ?_⟩
      · show ((false, _) :: assignEach es X.env).length = _
        simp [h2]
      · show List.findIdx? (·.1) ((false, _) :: assignEach es X.env) = none
        rw [List.findIdx?_cons]
        simp [h3]
    | _ => simp [isTgs] at h
def rTg (K : PySem.W.Frag) (cm : Nat → Addr) (px : Px) (C : PI.Ctx) (t : Tg) : TG := fun x σ H Q => ∃ F S A v d v3, Gd F H (un S A) ∧ Dj S A ∧ SRs K cm px F H v σ S ∧ Rep K cm F H d x A ∧ asT C t d v = some v3 ∧
  ∀ σ', SRs K cm px F H v3 σ' (un S A) → (∀ j, j ∉ tgS t → σ'[j]? = σ[j]?) → σ'.length = σ.length → Q σ' H
theorem PG_imp {e : Expr} {t t' : TG} (h : PG X e t) (k : ∀ x σ H Q, t' x σ H Q → t x σ H Q) : PG X e t' := ⟨fun pins s σ H v u Q I r q => h.run pins s σ H v u Q I r (k v σ H Q q)⟩
theorem gNs_ok {K : PySem.W.Frag} {F H : Hp} {S : Set'} : ∀ {is : List Nat} {ds : List D} {xs : List V} {v v3 : Env} {σ : L2.St} {Q : L2.St → Hp → Prop}, SRs K cm px F H v σ S → (∀ i ∈ is, PxNe px i) → RepL K cm F H ds xs no → setAll is ds v = some v3 →
    (∀ σ', SRs K cm px F H v3 σ' S → (∀ j, j ∉ is → σ'[j]? = σ[j]?) → σ'.length = σ.length → Q σ' H) → gNs is xs σ H Q
  | [], [], xs, v, v3, σ, Q, sr, hx, r, e, k => by
    simp only [setAll, Option.some.injEq] at e
    subst e
    simp only [RepL] at r
    exact ⟨r, k σ sr (fun _ _ => rfl) rfl⟩
  | [], _ :: _, xs, v, v3, σ, Q, sr, hx, r, e, k => by simp [setAll] at e
  | i :: is, [], xs, v, v3, σ, Q, sr, hx, r, e, k => by simp [setAll] at e
  | i :: is, d :: ds, xs, v, v3, σ, Q, sr, hx, r, e, k => by
    simp only [setAll] at e
    simp only [RepL] at r
    obtain ⟨u, rs, S1, S2, rfl, s1, s2, _, p1, p2⟩ := r
    have p1' := p1.mono (Ex.refl _) d s1 fun _ _ => rfl
    have p2' := p2.mono (Ex.refl _) ds s2 fun _ _ => rfl
    refine ⟨u, rs, rfl, gNs_ok (sr.put i (hx i (by simp)) p1' (dj_no _) (Sub.refl _) (no_sub _)) (fun j hj => hx j (by simp [hj])) p2' e fun σ' h1 h2 h3 => k σ' h1 (fun j hj => ?_) (by rw [h3, List.length_set])⟩
    simp only [List.mem_cons, not_or] at hj
    rw [h2 j hj.2, List.getElem?_set_ne (Ne.symm hj.1)]
theorem den_tg (hW : Wn x X) (hpx : ∀ i, C.pr i = false → PxNe px i) (hc : C.calm = true → X.calm = true) (t : Tg) {e : Expr} (h : isTg x t e = true) : PG X e (rTg X.K cm px C t) := by
  cases t with
  | nm i =>
    cases e with
    | Name s q =>
      refine PG_imp (pg_st hW h) fun xv σ H Q ⟨F, S, A, v, d, v3, g, j, sr, r, e, k⟩ => ?_
      simp only [asT] at e
      split at e
      · cases e
      · rename_i hpr
        cases e
        refine k _ (sr.put i (hpx i (Bool.eq_false_iff.mpr hpr)) r j (sub_l _ _) (sub_r _ _)) (fun j hj => ?_) (by rw [List.length_set])
        simp only [tgS, List.mem_singleton] at hj
        rw [List.getElem?_set_ne (Ne.symm hj)]
    | _ => simp [isTg] at h
  | tp is =>
    cases e with
    | Tuple es n q =>
      obtain ⟨h1, h2, h3⟩ := pgs_st hW (show isTgs x is es = true from h)
      by_cases hcc : C.calm = true
      · refine PG_imp (pg_tup (hc hcc) h1 h2 h3) fun xv σ H Q ⟨F, S, A, v, d, v3, g, j, sr, r, e, k⟩ => ?_
        simp only [asT] at e
        split at e
        · split at e
          · rename_i z
            simp only [Bool.and_eq_true] at z
            obtain ⟨a, xs, rfl, hs, hl⟩ := rep_sqt g.ex r
            have hn : ∀ {is : List Nat} {l : List D} {v : Env}, setAll is l v = some v3 → l.length = is.length := by
              intro is
              induction is with
              | nil => intro l v e; cases l <;> simp [setAll] at e ⊢
              | cons i is ih => intro l v e; cases l with
                | nil => simp [setAll] at e
                | cons d l => simp only [setAll] at e; simp [ih e]
            refine ⟨a, xs, rfl, hs, by rw [hl.len]; exact hn e, gNs_ok sr (fun i hi => hpx i ?_) (frzL z.1.2 hl) e fun σ' h1 h2 h3 => k σ' ?_ h2 h3⟩
            · have h5 := z.2
              rw [Bool.not_eq_true', List.any_eq_false] at h5
              exact Bool.eq_false_iff.mpr (h5 i hi)
            · exact h1.mono (Ex.refl _) (fun _ _ => rfl) (sub_l _ _)
          · cases e
        · cases e
      · refine ⟨fun pins s σ H xv u Q I r ⟨F, S, A, v, d, v3, g, j, sr, rr, e, k⟩ => ?_⟩
        simp only [asT] at e
        split at e
        · simp [hcc] at e
        · cases e
    | _ => simp [isTg] at h
end
end PI
/-! PI, part n: list comprehensions. -/
namespace PI
open PySem PySem.Spec PyProof.Rows L2
theorem wipe_at (σ : L2.St) : ∀ (vs : List Nat) (j : Nat), (wipe σ vs)[j]? = if j ∈ vs then (σ[j]?).map (fun _ => none) else σ[j]?
  | [], j => by simp [wipe]
  | v :: vs, j => by
    unfold wipe
    by_cases h : v = j
    · subst h
      rw [List.getElem?_set_self']
      rw [wipe_at σ vs v]
      split
      · rw [if_pos (by simp)]
        cases σ[v]? <;> rfl
      · rw [if_pos (by simp)]
        cases σ[v]? <;> rfl
    · rw [List.getElem?_set_ne h, wipe_at σ vs j]
      have : j ∈ v :: vs ↔ j ∈ vs := by
        simp only [List.mem_cons]
        exact ⟨fun z => z.elim (fun y => absurd y.symm h) id, .inr⟩
      simp only [this]
theorem wipe_eq {σ σ' : L2.St} {vs : List Nat} (h : ∀ j, j ∉ vs → σ'[j]? = σ[j]?) (hl : σ'.length = σ.length) : wipe σ' vs = wipe σ vs := by
  apply List.ext_getElem?
  intro j
  rw [wipe_at, wipe_at]
  split
  · by_cases hj : j < σ.length
    · rw [List.getElem?_eq_getElem hj, List.getElem?_eq_getElem (by omega)]
      rfl
    · rw [List.getElem?_eq_none (by omega), List.getElem?_eq_none (by omega)]
  · exact h j (by assumption)
theorem wipe_wipe (σ : L2.St) (vs : List Nat) : wipe (wipe σ vs) vs = wipe σ vs := wipe_eq (fun j h => by rw [wipe_at, if_neg h]) (wipe_length σ vs)
theorem wipeE_len (v : Env) : ∀ own, (wipeE v own).length = v.length
  | [] => rfl
  | i :: is => by simp [wipeE, wipeE_len v is]
theorem wipeE_none {v : Env} : ∀ {own : List Nat} {k : Nat}, k ∈ own → getV (wipeE v own) k = none
  | i :: is, k, h => by
    by_cases z : k = i
    · subst z
      simp only [wipeE, getV, List.getElem?_set_self']
      cases (wipeE v is)[k]? <;> rfl
    · have h' : k ∈ is := (List.mem_cons.mp h).resolve_left z
      simp only [wipeE]
      rw [getV_set_ne z]
      exact wipeE_none h'
section
variable {K : PySem.W.Frag} {cm : Nat → Addr} {px : Px} {F H F1 H1 : Hp} {S A B T : Set'} {v : Env} {σ : L2.St}
theorem SRs.unw (h : SRs K cm px0 F H v σ S) : ∀ (own : List Nat), SRs K cm px0 F H (wipeE v own) (wipe σ own) S
  | [] => h
  | i :: is => by
    have q := (h.unw is).drop i
    have hw : wipe σ (i :: is) = (wipe σ is).set i none := rfl
    rw [hw]
    refine q.sig (by simp) (fun _ => PxOk.none) fun j d e => ?_
    by_cases z : j = i
    · subst z
      rw [List.getElem?_set_self'] at e
      cases w : (wipeE v is)[j]? <;> rw [w] at e <;> cases e
    · rw [List.getElem?_set_ne (Ne.symm z)]
theorem SRs.rew {own : List Nat} (h : SRs K cm px0 F H v (wipe σ own) S) (hn : ∀ k ∈ own, getV v k = none) : SRs K cm px0 F H v σ S := by
  refine h.sig (wipe_length σ own).symm (fun _ => PxOk.none) fun j d e => ?_
  rw [wipe_at]
  rw [if_neg]
  intro z
  have := hn j z
  unfold getV at this
  rw [e] at this
  cases this
theorem SRs.bak {v0 : Env} {F0 H0 : Hp} {S0 : Set'} (h0 : SRs K cm px F0 H0 v0 σ S0) (e : Ex F0 F) (h : SRs K cm px F H v σ S) : ∀ (own : List Nat), SRs K cm px F H (backE v0 v own) σ S
  | [] => h
  | i :: is => by
    have q := SRs.bak h0 e h is
    simp only [backE]
    cases w : (getV v0 i).filter D.frozen with
    | none => exact q.drop i
    | some d =>
      rw [Option.filter_eq_some_iff] at w
      obtain ⟨x, ex, r⟩ := h0.get w.1
      have r' : Rep K cm F H d x no := (r.mono e d (Sub.refl _) fun _ _ => rfl).frozen (H' := H) d w.2
      exact q.put' i ex r' (dj_no _) (Sub.refl _) (no_sub _)
theorem RepL.snoc {y : D} {yv : V} : ∀ {l : List D} {xs : List V} {S1 S2 : Set'}, RepL K cm F H l xs S1 → Rep K cm F H y yv S2 → Dj S1 S2 → RepL K cm F H (l ++ [y]) (xs ++ [yv]) (un S1 S2)
  | [], xs, S1, S2, h, r, j => by
    simp only [RepL] at h
    subst h
    simp only [List.nil_append, RepL]
    exact ⟨yv, [], S2, no, rfl, sub_r _ _, no_sub _, dj_no _, r, rfl⟩
  | d :: l, xs, S1, S2, h, r, j => by
    simp only [RepL] at h
    obtain ⟨x, rs, T1, T2, rfl, s1, s2, j', p1, p2⟩ := h
    simp only [List.cons_append, RepL]
    refine ⟨x, rs ++ [yv], T1, un T2 S2, rfl, s1.trans (sub_l _ _), un_sub (s2.trans (sub_l _ _)) (sub_r _ _), fun a y z => z.elim (j' a y) (j a (s1 a y)), p1, RepL.snoc p2 r (j.mono s2 (Sub.refl _))⟩
/-- a list is written -/
theorem tr_wr {p : Addr} {o o' : HO} (g : Gd F H S) (hp : S p) (h : H p = some o) : Tr F H S F (upd H p o') S := by
  have fp : F p = none := g.dj p hp
  refine ⟨Ex.refl F, ⟨fun a u q => ?_, g.dj, fun a z => ?_⟩, fun a z => .inl z, fun a u q n => ?_, fun a u q => .inl q⟩
  · rw [upd_ne fun z => by rw [z, fp] at q; cases q]
    exact g.ex a u q
  · by_cases y : a = p
    · subst y; exact ⟨o', upd_same⟩
    · rw [upd_ne y]; exact g.dom a z
  · rw [upd_ne fun z => n (by rw [z]; exact hp)]
    exact q
theorem rep_app {l : List D} {p : Addr} {y : D} {yv : V} (r : Rep K cm F H (.lst .own l) (.ref p) B) (ry : Rep K cm F H y yv T) (j : Dj B T) :
    ∃ xs, H p = some (.lst xs) ∧ xs.length = l.length ∧ B p ∧ Rep K cm F (upd H p (.lst (xs ++ [yv]))) (.lst .own (l ++ [y])) (.ref p) (un B T) := by
  simp only [Rep] at r
  obtain ⟨a, xs, U, e, h1, h2, h3, h4, h5⟩ := r
  cases e
  refine ⟨xs, h1, h5.len, h2, ?_⟩
  have np : ¬ un U T p := fun z => z.elim h4 (j p h2)
  simp only [Rep]
  refine ⟨p, xs ++ [yv], un U T, rfl, upd_same, .inl h2, un_sub (h3.trans (sub_l _ _)) (sub_r _ _), np, ?_⟩
  refine (RepL.snoc h5 ry (j.mono h3 (Sub.refl _))).mono (Ex.refl _) _ (Sub.refl _) fun a z => ?_
  rw [upd_ne fun y => np (by rw [← y]; exact z)]
end
section
variable {cm : Nat → Addr} {px : Px} {W : WX} {X : Cx} {elt tg iter : Expr} {ifs : List Expr} {scope : Scope} {pos : Pos} {ei : Env → R (List D)} {eb : Env → R D} {ct : Env → R Bool} {C : PI.Ctx} {t : Tg} {own : List (Str × Nat)}
def W0 : WX := fun _ _ _ _ => False
def lcStep (C : PI.Ctx) (t : Tg) (ct : Env → R Bool) (eb : Env → R D) : D → Env → R (Option D) := fun d v2 => match asT C t d v2 with
  | some v3 => (ct v3).bind fun c v4 => if c then (eb v4).bind fun y v5 => .ok (some y) v5 else .ok none v4
  | none => .err
theorem lc_rd (hsub : ∀ j ∈ tgS t, j ∈ own.map (·.2)) {σ : L2.St} {H : Hp} {Q : VK} (h : (tD X.K cm px W fun v => (ei v).bind fun items v1 => (lcLoop (own.map (·.2)) (lcStep C t ct eb) items [] (wipeE v1 (own.map (·.2)))).bind fun l v6 => .ok (.lst .own l) (backE v1 v6 (own.map (·.2)))) σ H Q) :
    tLc (tIt X.K cm px W ei) (rTg X.K cm px0 C t) (tBo X.K cm px0 W0 ct) (tD X.K cm px0 W0 eb) (own.map (·.2)) σ H Q := by
  obtain ⟨F, S, v, g, sr, q⟩ := h
  refine ⟨F, S, v, g, sr, RQ.bindI q (Tr.refl g) fun items v1 J F1 H1 S1 A1 _ q1 t1 j1 sr1 yl => ?_⟩
  intro D hD
  generalize own.map (·.2) = vs at hsub q1 ⊢
  have t1 := t1.left
  let fin : List PI.D → Env → R PI.D := fun l v6 => .ok (.lst .own l) (backE v1 v6 vs)
  let P : Nat → Hp → Prop := fun i H' => ∃ F' S' B acc v', Tr F H S F' H' (un S' B) ∧ Dj S' B ∧ Rep X.K cm F' H' (.lst .own acc) (.ref D) B ∧ SRs X.K cm px0 F' H' v' (wipe σ vs) S' ∧ (∀ k ∈ vs, getV v' k = none) ∧ Ex F1 F' ∧
    RQ X.K cm px W (Rep X.K cm) ((lcLoop vs (lcStep C t ct eb) (items.drop i) acc v').bind fin) F H S σ Q
  refine ⟨fun i m H' => m = items.length - i ∧ i ≤ items.length ∧ P i H', ⟨items.length, by simp, Nat.zero_le _, ?_⟩, ?_⟩
  · have t2 := tr_ownS (o := .lst []) t1.gd hD
    refine ⟨F1, S1, at1 D, [], wipeE v1 vs, (t1.trans t2).sub (un_sub (sub_r _ _) (sub_l _ _)), fun a y z => ?_, ?_, ?_, fun k hk => wipeE_none hk, Ex.refl _, q1⟩
    · obtain rfl : a = D := z
      obtain ⟨o, e⟩ := t1.gd.dom a y
      rw [hD] at e
      cases e
    · simp only [Rep, RepL]
      exact ⟨D, [], no, rfl, upd_same, rfl, no_sub _, fun z => z, rfl⟩
    · refine (sr1.nopx.unw vs).mono (Ex.refl _) (fun a z => ?_) (Sub.refl _)
      rw [upd_ne fun y => by
        obtain ⟨o, e⟩ := t1.gd.dom a z
        rw [y, hD] at e
        cases e]
  · rintro i m H' ⟨rfl, hle, F', S', B, acc, v', tr, dj, ra, srv, hnone, ex1, qr⟩
    obtain ⟨hstop, hgo⟩ := yl H' (ex1.trans tr.gd.ex)
    by_cases hlt : i < items.length
    · obtain ⟨d, hd⟩ : ∃ d, items[i]? = some d := ⟨items[i], by simp [hlt]⟩
      have hdrop : items.drop i = d :: items.drop (i + 1) := by
        rw [List.drop_eq_getElem_cons hlt]
        rw [List.getElem?_eq_getElem hlt] at hd
        cases hd
        rfl
      rw [hdrop] at qr
      simp only [lcLoop] at qr
      obtain ⟨go, yld⟩ := hgo i d hd
      refine .inr ⟨go, P (i + 1), fun H'' p => ⟨items.length - (i + 1), by omega, rfl, hlt, p⟩, fun x H'' y => ?_⟩
      obtain ⟨rfl, rx⟩ := yld x H'' y
      have rx' : Rep X.K cm F' H'' d x no := rx.mono ex1 d (Sub.refl _) fun _ _ => rfl
      have gS : Gd F' H'' S' := tr.gd.sub (sub_l _ _)
      have gB : Gd F' H'' B := tr.gd.sub (sub_r _ _)
      cases ha : asT C t d v' with
      | none =>
        simp only [lcStep, ha] at qr
        exact qr.elim
      | some v3 =>
        simp only [lcStep, ha] at qr
        refine ⟨F', S', no, v', d, v3, gS.un (Gd.no tr.gd.ex), dj_no _, srv, rx', ha, fun σ2 sr2 h2 hl2 => ⟨?_, ?_⟩⟩
        · rw [wipe_eq (fun j hj => h2 j fun z => hj (hsub j z)) hl2, wipe_wipe]
        have hw2 : wipe σ2 vs = wipe σ vs := by rw [wipe_eq (fun j hj => h2 j fun z => hj (hsub j z)) hl2, wipe_wipe]
        have sr2 : SRs X.K cm px0 F' H'' v3 σ2 S' := sr2.mono (Ex.refl _) (fun _ _ => rfl) (un_sub (Sub.refl _) (no_sub _))
        refine ⟨F', S', v3, gS, sr2, ?_⟩
        cases hct : ct v3 with
        | err => rw [hct] at qr; exact qr.elim
        | exc c fs w => rw [hct] at qr; exact qr.elim
        | ok b v4 =>
          rw [hct] at qr
          simp only [R.bind_ok] at qr
          intro b' F2 H2 S2 S3 t2 j2 sr2 hb
          obtain rfl : b' = b := hb
          have t2 := t2.left
          cases b' with
          | false =>
            simp only [Bool.false_eq_true, if_false, R.noX_ok, R.bind_ok] at qr ⊢
            have bs := t2.beside gB dj
            refine ⟨F2, S2, B, acc, wipeE v4 vs, tr.trans (t2.frame gB dj), bs.2.2, ra.mono t2.ex _ (Sub.refl _) bs.1, ?_, fun k hk => wipeE_none hk, ex1.trans t2.ex, qr⟩
            have := sr2.unw vs
            rw [hw2] at this
            exact this
          | true =>
            simp only [if_true] at qr ⊢
            refine ⟨F2, S2, v4, t2.gd, sr2, ?_⟩
            cases heb : eb v4 with
            | err => rw [heb] at qr; exact qr.elim
            | exc c fs w => rw [heb] at qr; exact qr.elim
            | ok yd v5 =>
              rw [heb] at qr
              simp only [R.bind_ok, R.noX_ok] at qr
              intro yv F4 H4 S4 T4 t4 j4 sr4 ry
              have tt := t2.trans t4
              have bs := tt.beside gB dj
              have fr := tt.frame gB dj
              have ra4 := ra.mono tt.ex _ (Sub.refl _) bs.1
              split at qr
              · rename_i hz
                obtain ⟨xs, e1, e2, e3, e4⟩ := rep_app ra4 ry fun a y z => bs.2.2 a (.inr z) y
                have g4 := (tr.trans fr).gd
                refine ⟨xs, e1, by rw [e2]; exact hz, F4, S4, un B T4, acc ++ [yd], wipeE v5 vs, ((tr.trans fr).trans (tr_wr g4 (.inr e3) e1)).sub ?_, ?_, e4, ?_, fun k hk => wipeE_none hk, ex1.trans tt.ex, qr⟩
                · exact un_sub ((sub_l _ _).trans (sub_l _ _)) (un_sub (sub_r _ _) ((sub_r _ _).trans (sub_l _ _)))
                · intro a y z
                  rcases z with z | z
                  · exact bs.2.2 a (.inl y) z
                  · exact j4 a y z
                · have := sr4.unw vs
                  rw [hw2] at this
                  refine this.mono (Ex.refl _) (fun a z => ?_) (Sub.refl _)
                  rw [upd_ne fun y => bs.2.2 a (.inl z) (by rw [y]; exact e3)]
              · exact qr.elim
    · have e : i = items.length := by omega
      subst e
      refine .inl ⟨hstop, ?_⟩
      rw [List.drop_length] at qr
      exact qr (.ref D) F' H' S' B tr dj (sr1.bak ex1 (sr1.repx ex1 (srv.rew hnone)) vs) ra
theorem den_lc (hc : X.calm = true) (hN : X.N.Nodup) (hi : PI X tg iter (tIt X.K cm px W ei)) (ok : BlkOk X.N X.env.scope scope own) (hsub : ∀ j ∈ tgS t, j ∈ own.map (·.2))
    (hg : ∀ (s : Shared) (H : Hp) (D : Addr) (cl : List (Str × Addr)) (fp : List Addr), PG (X.blk s H scope (compEnvC scope cl D X.env) fp) tg (rTg X.K cm px0 C t))
    (ht : ∀ (s : Shared) (H : Hp) (D : Addr) (cl : List (Str × Addr)) (fp : List Addr), PTs (X.blk s H scope (compEnvC scope cl D X.env) fp) ifs (tBo X.K cm px0 W0 ct))
    (he : ∀ (s : Shared) (H : Hp) (D : Addr) (cl : List (Str × Addr)) (fp : List Addr), PE (X.blk s H scope (compEnvC scope cl D X.env) fp) elt (tD X.K cm px0 W0 eb)) (hs : notSet iter = true) :
    PE X (.ListComp elt [⟨tg, iter, ifs, 0⟩] scope pos) (tD X.K cm px W fun v => (ei v).bind fun items v1 => (lcLoop (own.map (·.2)) (lcStep C t ct eb) items [] (wipeE v1 (own.map (·.2)))).bind fun l v6 => .ok (.lst .own l) (backE v1 v6 (own.map (·.2)))) := by
  exact PE_imp (pe_lc hc hN hi ok hg ht he (fun x => set_plain hs x)) fun σ H Q q => lc_rd hsub q
end
end PI
/-! PI, part o: what is asked of a caught exception. -/
namespace PI
open PySem PySem.Spec PyProof.Rows L2
section
open PySem.W PySem.Calls
variable {prog : Program} {w : World} {A : Around} {E : Value → Shared → Prop} {s : Shared} {K : Frag} {p C : Addr} {ob : Obj} {dob : Option Obj}
/-- the exception's class by its attribute, with a dict or without -/
theorem exc_cls (x : ExcC K C) {Q : Option Value → Shared → Prop} (kin : K.In s.heap) (at' : InstAt s.heap p ob C dob) (q : Q (some (.ref C)) { s with toks := s.toks + 1 }) :
    wpAny (model prog w) A (getAttr? (.ref p) "__class__") Q E s := by
  have bd : findObj K C dob "__class__" = some (.bind (.builtin "getset_descriptor.__get__") (.builtin "object.__class__")) := by
    have dc : (clsIn K C).isSome = true := by
      obtain ⟨c, e, _⟩ := any_some x.hd
      rw [e]
      rfl
    cases dob with
    | none => exact findObj_dataN dc x.ha x.hn x.ht
    | some o => exact findObj_data dc x.ha x.hn x.ht
  obtain ⟨hp, ge, dr, tk, osv⟩ := s
  have K0 := at'.type (M := model prog w)
  have K1 := looks_findIn (M := model prog w) kin x.hg
  have K2 := looks_findIn (M := model prog w) kin x.hk
  have K3 := looks_find (M := model prog w) kin at' bd
  have isB : Looks (model prog w) hp (isInstance (.ref p) (.type "BaseException")) true := K0.andThen (looks_subIn kin x.hs)
  have n0 : (false && onTheHeap (Value.builtin "BaseException.__getattribute__")) = false := rfl
  have n2 : (Value.builtin "BaseException.__getattribute__" == Value.builtin "object.__getattribute__") = false := by decide +kernel
  have n1 : (onTheHeap (Value.ref C) && Value.builtin "BaseException.__getattribute__" == Value.builtin "object.__getattribute__") = false := by rw [n2] <;> rfl
  unfold getAttr? getAttrBy? getAttrBy
  refine wpAny_bind (wpAny_mkText (wpAny_bind (wpAny_attempt (wpAny_holding (wpAny_bind (K0.at (wpAny_bind (K1.at ?_))))))))
  show wpAny _ _ (if (onTheHeap (Value.ref C) && Value.builtin "BaseException.__getattribute__" == Value.builtin "object.__getattribute__") = true then _ else _) _ _ _
  rw [n1, if_neg Bool.false_ne_true]
  unfold getAttrByItsOwn
  unfold hookBefore
  apply wpAny_bind
  rw [if_pos (show onTheHeap (Value.ref C) = true from rfl)]
  apply K2.at
  refine wpAny_bind (wpAny_attempt (wpAny_holding ?_))
  unfold callGetattribute
  rw [n0, if_neg Bool.false_ne_true]
  unfold boundAndCalled
  rw [PySem.F.excAttr_ValueError.ga.bind (.ref p)]
  refine wpAny_bind (wpAny_pure ?_)
  show wpAny _ _ (call (.builtin "BaseException.__getattribute__") [.ref p, .str "__class__" tk]) _ _ _
  refine wpAny_call (codeAny_call_builtin PySem.F.excAttr_ValueError.ga.plain PySem.F.entry_bexc_ga ?_)
  refine @check_slot (model prog w) _ _ ⟨hp, ge, dr, tk + 1, osv⟩ "BaseException.__getattribute__" "BaseException" "__getattribute__" (.ref p) [.str "__class__" tk] [] _ (by decide +kernel) (by decide +kernel) isB (PySem.F.args_bexc_ga (.ref p) (.str "__class__" tk)) ?_
  unfold Builtin.«object.__getattribute__»
  refine wpAny_bind (wpAny_of_eq (a := ((Value.ref p : Value), [Value.str "__class__" tk])) (by first | rfl | (simp only [slotArgs]; rfl)) ?_)
  refine wpAny_bind (wpAny_pure (wpAny_bind (K0.at (wpAny_bind (K3.at ?_)))))
  show wpAny _ _ (holding [Value.builtin "object.__class__"] (call (.builtin "getset_descriptor.__get__") [.builtin "object.__class__", .ref p, .ref C]) >>= ret) _ _ _
  refine wpAny_bind (wpAny_holding (wpAny_call (class_get (s := ⟨hp, ge, dr, tk + 1, osv⟩) (ox := ob) (od := dob) kin at' x.hm ?_)))
  apply wpAny_pure
  show wpAny _ _ (handedOut (.ref C)) _ _ _
  rw [handedOut_of (v := .ref C) rfl]
  first
    | exact wpAny_pure (wpAny_pure q)
    | exact wpAny_pure q
    | exact wpAny_pure (wpAny_bind (wpAny_pure (wpAny_pure q)))
theorem exc_kit (x : ExcC K C) : KitX K (.ref p) (.ref C) (fun h => InstAt h p ob C dob) where
  ty := fun _ _ _ y => y.type
  it := fun _ _ kin _ => by
    obtain ⟨cd, e, _⟩ := any_some x.hd
    unfold clsIn at e
    split at e
    · rename_i e2
      intro _ _ _ _ k q
      unfold isType loadHead
      exact wpAny_bind (wpAny_loadPart (k _ _ (kin _ _ e2)) (wpAny_pure q))
    · cases e
  ne := fun h t dd its n sl kin ht => by
    obtain ⟨cd, e, _⟩ := any_some x.hd
    apply Bool.eq_false_iff.mpr
    intro q
    obtain rfl : C = t := Value.ref.inj (beq_iff_eq.mp q)
    unfold clsIn at e
    split at e
    · rename_i e2
      cases (kin _ _ e2).symm.trans ht
    · cases e
  ca := fun kin y k => exc_cls x kin y k
end
section
variable {cm : Nat → Addr} {px : Px} {W : WX} {X : Cx} {C : PI.Ctx} {x : Sx}
theorem HasX.inst {cl : List Nat} {c : Nat} {a : Addr} {dd : Option Addr} {oe : Obj} (h : HasX cm C cl X c a dd oe) {pins : List (Addr × Obj)} {σ : L2.St} {F H : Hp} {s : Shared} {fs : Fs} (I : Inv X pins σ H s) (e : Ex F H) (r : XR X.K cm F F dd fs) :
    ∃ od, PySem.W.InstAt s.heap a oe (cm c) od ∧ ∀ d xs, dd = some d → F d = some (.xd xs) → ∃ o, od = some o ∧ ∀ n v, xs.lookup n = some v → ∃ u, PySem.W.lookIn n o = some (some u) ∧ L2.RelV v u := by
  obtain ⟨hget, _⟩ := I.pin (a, oe) (List.mem_append_left _ h.pn)
  obtain ⟨vs, hd⟩ := h.data
  have nc : PySem.W.notCls oe = true := by unfold PySem.W.notCls; rw [hd]
  have hdict := h.dict
  cases dd with
  | none => exact ⟨none, ⟨hget, h.cls, nc, by rw [hdict]; trivial⟩, fun d xs z => by cases z⟩
  | some d =>
    obtain ⟨xs, h1, h2⟩ := r
    have hx : ObjOk X.prog X.w H s.heap d (.xd xs) := I.hok d _ (e _ _ h1)
    obtain ⟨mA, hns, hr⟩ := hx
    obtain ⟨od, ho, hl⟩ := lookIn_ns hns
    refine ⟨some od, ⟨hget, h.cls, nc, by rw [hdict]; exact ho⟩, fun d' xs' z z' => ?_⟩
    cases z
    rw [h1] at z'
    cases z'
    refine ⟨od, rfl, fun n v q => ?_⟩
    obtain ⟨u, hu, ru⟩ := RelO.some_of (v := v) (o := mA n) (by rw [← q]; exact hr n)
    exact ⟨u, by rw [hl, hu], ru⟩
/-- isinstance(e, c), isinstance(e, (c, ..)) -/
def rXi (K : PySem.W.Frag) (cm : Nat → Addr) (c : Nat) (a : Addr) (dd : Option Addr) (fs : Fs) : List V → Hp → VK → Prop := fun vs H Q => ∃ F b, Ex F H ∧ XR K cm F F dd fs ∧ Q (.bl b) H ∧
  ((∃ cv u, vs = [.ref a, cv] ∧ ClsV cv u ∧ PySem.W.kitOne K (.ref (cm c)) u = some b) ∨ ∃ tp cs us, vs = [.ref a, .ref tp] ∧ H tp = some (.tup cs) ∧ Paired ClsV cs us ∧ PySem.W.kitAny K (.ref (cm c)) us = some b)
theorem call_xi {cl : List Nat} {c : Nat} {a : Addr} {dd : Option Addr} {oe : Obj} {fs : Fs} (h : HasX cm C cl X c a dd oe) : CallR X (.builtin "isinstance") (rXi X.K cm c a dd fs) := by
  intro pins s σ H xs us Q I r ⟨F, b, e, xr, q, h2⟩
  obtain ⟨od, J, _⟩ := h.inst I e xr
  rcases h2 with ⟨cv, u, rfl, hc, e2⟩ | ⟨tp, cs, ws, rfl, hT, hc, e2⟩
  · obtain ⟨u1, u2, rfl, r1, r2⟩ := vals2 r
    obtain rfl : u1 = Value.ref a := r1
    have e3 := hc.eq r2
    subst e3
    exact PySem.W.kia_one (exc_kit h.xc.ec) I.kIn J e2 (fun z => nomatch z) fun tk => ⟨.bl b, H, I.tok tk, rfl, q⟩
  · obtain ⟨u1, u2, rfl, r1, r2⟩ := vals2 r
    obtain rfl : u1 = Value.ref a := r1
    obtain rfl : u2 = Value.ref tp := r2
    obtain ⟨_, its, rv, o, h1, h2, n, h3⟩ := (show ObjOk X.prog X.w H s.heap tp (.tup cs) from I.hok tp _ hT)
    have e3 := ClsV.all hc rv
    subst e3
    obtain ⟨oc, od', dt, sl⟩ := o
    simp only at h2 h3
    subst h2 h3
    exact PySem.W.kia_tup (exc_kit h.xc.ec) I.kIn J h1 e2 (fun z => nomatch z) fun tk => ⟨.bl b, H, I.tok tk, rfl, q⟩
end
end PI
/-! PI, part p: isinstance, fields of exceptions, f-strings. -/
namespace PI
open PySem PySem.Spec PyProof.Rows L2
def tyD : D → Option String
  | .non => some "NoneType"
  | .bl _ => some "bool"
  | .int _ => some "int"
  | .str _ => some "str"
  | .tup _ => some "tuple"
  | .lst _ _ => some "list"
  | _ => none
def tyS : Ty → String
  | .int => "int" | .bool => "bool" | .str => "str" | .list => "list" | .tuple => "tuple"
theorem kit_dat {d : D} {t : Ty} {b : Bool} (h : isiD d t = some b) : ∃ s, tyD d = some s ∧ kitB s (tyS t) = some b := by
  cases d <;> cases t <;> simp only [isiD] at h <;> first | (cases h; done) | (cases h; exact ⟨_, rfl, by decide +kernel⟩)
section
variable {K : PySem.W.Frag} {cm : Nat → Addr} {F H : Hp} {S : Set'}
theorem tyX_of (e : Ex F H) {d : D} {x : V} {t : String} (r : Rep K cm F H d x S) (h : tyD d = some t) : TyX K H x (.type t) := by
  cases d <;> simp only [tyD, Option.some.injEq, reduceCtorEq] at h <;> subst h
  · simp only [Rep] at r; subst r; exact .base .non
  · simp only [Rep] at r; subst r; exact .base (.bl _)
  · simp only [Rep] at r; subst r; exact .base (.int _)
  · simp only [Rep] at r; subst r; exact .base (.str _)
  · obtain ⟨a, xs, rfl, hs, _⟩ := rep_sqt e r
    rcases hs with (hs | ⟨o, hs⟩) | ⟨o, its, n, h1, h2, _⟩
    · exact .base (.tup hs)
    · exact .fTuple hs
    · exact .kTuple h1 h2
  · obtain ⟨a, xs, rfl, hs, _⟩ := rep_sql e r
    rcases hs with (hs | ⟨o, hs⟩) | ⟨o, its, n, h1, h2, _⟩
    · exact .base (.lst hs)
    · exact .base (.frz hs)
    · exact .kList h1 h2
theorem repF_lookup : ∀ {fs : Fs} {xs : List (Str × V)} {S : Set'} {f : Str} {d : D}, RepF K cm F H fs xs S → fs.lookup f = some d → ∃ v, xs.lookup f = some v ∧ Rep K cm F H d v S
  | [], _, _, _, _, _, h => by simp at h
  | (k, d0) :: fs, xs, S, f, d, r, h => by
    simp only [RepF] at r
    obtain ⟨y, rs, S1, S2, rfl, s1, s2, _, p1, p2⟩ := r
    simp only [List.lookup] at h ⊢
    cases z : f == k with
    | true =>
      simp only [z] at h ⊢
      cases h
      exact ⟨y, rfl, p1.mono (Ex.refl _) _ s1 fun _ _ => rfl⟩
    | false =>
      simp only [z] at h ⊢
      obtain ⟨v, e, r⟩ := repF_lookup p2 h
      exact ⟨v, e, r.mono (Ex.refl _) _ s2 fun _ _ => rfl⟩
end
section
variable {cm : Nat → Addr} {px : Px} {W : WX} {X : Cx} {a b c : Expr} {rest es : List Expr} {pos p p2 : Pos} {ea eb ec : Env → R D} {x : Sx} {C : PI.Ctx} {ar : Env → R (List Ar)} {s : Str} {i : Nat}
theorem gl_of (h : x.gl s = true) : x.sc.names.lookup s = some .globalImplicit ∧ (s == ("__debug__" : Str)) = false ∧ (s == ("__name__" : Str)) = false := by
  simp only [Sx.gl, Bool.and_eq_true, decide_eq_true_eq, Bool.not_eq_true'] at h
  exact ⟨h.1.1, h.1.2, h.2⟩
theorem nm_of (hW : Wd cm px W x C X) (h : x.nm i s = true) : PE X (.Name s p) (tVar i) := by
  simp only [Sx.nm, Bool.and_eq_true, decide_eq_true_eq, Bool.not_eq_true'] at h
  exact pe_var (by rw [hW.names]; exact h.1.1.1) (hW.vis s h.1.1.2) h.1.2 h.2
theorem pe_tyN (hW : Wd cm px W x C X) (t : Ty) (h : x.gl (tyN t) = true) : PE X (.Name (tyN t) p) (tC (.ty (tyS t))) := by
  obtain ⟨h1, h2, h3⟩ := gl_of h
  refine pe_bltn (hW.glb _ h1) (hW.blt _ (by cases t <;> simp [tyN, bltNames])) (u := .type (tyS t)) (by cases t <;> rfl) rfl (fun z => by rw [z] at h3; simp at h3) h2
theorem den_isi (hW : Wd cm px W x C X) (t : Ty) (hg : x.gl "isinstance" = true) (ha : PE X a (tVar i)) (hn : notStar a = true) (hu : x.gl (tyN t) = true) :
    PE X (.Call (.Name "isinstance" p) [a, .Name (tyN t) p2] [] pos) (tD X.K cm px W fun v => match getV v i with
      | some d => .of ((isiD d t).map .bl) v
      | none => .err) := by
  obtain ⟨h1, h2, h3⟩ := gl_of hg
  refine PE_imp (pe_callB call_isi (hW.glb _ h1) (hW.blt _ (by simp [bltNames])) rfl (pa_cons ha (pa_cons (pe_tyN hW t hu) pa_nil rfl) (star_cons hn)) (he := star_cons hn) (hpl := rfl)) fun σ H Q ⟨F, S, v, g, sr, q⟩ => ?_
  simp only at q
  cases e : getV v i with
  | none => rw [e] at q; exact q.elim
  | some d =>
    rw [e] at q
    simp only at q
    obtain ⟨xv, e1, r⟩ := sr.get e
    cases e2 : isiD d t with
    | none => rw [e2] at q; exact q.elim
    | some b =>
      rw [e2] at q
      obtain ⟨ts, e3, e4⟩ := kit_dat e2
      exact ⟨xv, e1, xv, .ty (tyS t), .type ts, .type (tyS t), b, rfl, .ty _, tyX_of g.ex r e3, kit_ty e4, (RQ.fin q (Tr.refl g) sr).bl g.ex⟩
theorem den_isg (hW : Wd cm px W x C X) (t : Ty) (hg : x.gl "isinstance" = true) (ha : PE X a (tD X.K cm px W ea)) (hn : notStar a = true) (hu : x.gl (tyN t) = true) :
    PE X (.Call (.Name "isinstance" p) [a, .Name (tyN t) p2] [] pos) (tD X.K cm px W fun v => (ea v).bind fun x v1 => .of ((isiD x t).map .bl) v1) := by
  obtain ⟨h1, h2, h3⟩ := gl_of hg
  refine PE_imp (pe_callB call_isi (hW.glb _ h1) (hW.blt _ (by simp [bltNames])) rfl (pa_cons ha (pa_cons (pe_tyN hW t hu) pa_nil rfl) (star_cons hn)) (he := star_cons hn) (hpl := rfl)) fun σ H Q ⟨F, S, v, g, sr, q⟩ => ?_
  refine ⟨F, S, v, g, sr, RQ.bindI q (Tr.refl g) fun d v1 xv F1 H1 S1 A1 _ q1 t1 j1 sr1 r => ?_⟩
  cases e2 : isiD d t with
  | none => rw [e2] at q1; exact q1.elim
  | some b =>
    rw [e2] at q1
    obtain ⟨ts, e3, e4⟩ := kit_dat e2
    exact ⟨xv, .ty (tyS t), .type ts, .type (tyS t), b, rfl, .ty _, tyX_of t1.gd.ex r e3, kit_ty e4, (RQ.fin q1 t1.left sr1).bl t1.gd.ex⟩
/-! ### the caught exception -/
theorem pa_cls (hW : Wd cm px W x C X) : ∀ {cs : List Nat} {l : List Expr}, isCls x cs l = true → PA X l (fun σ H Q => Q (cs.map fun c => V.ref (cm c)) H) ∧ l.all notStar = true ∧ ∀ c ∈ cs, c ∈ x.g.cs.map (·.2)
  | [], [], _ => ⟨PA_imp pa_nil fun _ _ _ q => q, rfl, by simp⟩
  | [], _ :: _, h => by simp [isCls] at h
  | c :: cs, [], h => by simp [isCls] at h
  | c :: cs, e :: l, h => by
    cases e with
    | Name s q =>
      simp only [isCls, Bool.and_eq_true, decide_eq_true_eq] at h
      obtain ⟨h1, h2, h3⟩ := pa_cls hW h.2
      obtain ⟨g1, g2, g3⟩ := gl_of h.1.1
      refine ⟨PA_imp (pa_cons (pe_glob (v := V.ref (cm c)) (hW.glb _ g1) (hW.cls s c h.1.2) rfl g2) h1 rfl) fun σ H Q q => q, by simp [notStar, h2], fun c' hc => ?_⟩
      rcases List.mem_cons.mp hc with z | z
      · subst z
        exact List.mem_map.mpr ⟨(s, c'), PySem.mem_of_lookup h.1.2, rfl⟩
      · exact h3 c' z
    | _ => simp [isCls] at h
theorem kit_any {K : PySem.W.Frag} {cl : List Nat} {c : Nat} (h : XCls K cm C cl c) : ∀ {cs : List Nat}, (∀ c ∈ cs, c ∈ cl) → PySem.W.kitAny K (.ref (cm c)) (cs.map fun c => Value.ref (cm c)) = some (cs.any (C.sub c))
  | [], _ => rfl
  | d :: cs, hm => by
    rw [List.any_cons]
    exact kitAny_cons (b := C.sub c d) (h.sub d (hm d (by simp))) (fun z => by rw [z, Bool.false_or]; exact kit_any h fun e he => hm e (by simp [he])) (fun z => by rw [z, Bool.true_or])
theorem cls_paired {cs : List Nat} : Paired ClsV (cs.map fun c => V.ref (cm c)) (cs.map fun c => Value.ref (cm c)) := by
  induction cs with
  | nil => exact .nil
  | cons c cs ih => exact .cons (.own _) ih
def isxR (C : PI.Ctx) (i : Nat) (cs : List Nat) (v : Env) : R D := match C.cur with
  | some (j, c, _) => if j = i then .ok (.bl (cs.any (C.sub c))) v else .err
  | none => .err
theorem den_isx0 (hW : Wd cm px W x C X) {cs : List Nat} {l : List Expr} {k : Nat} (hg : x.gl "isinstance" = true) (ha : PE X a (tVar i)) (hn : notStar a = true) (hl : isCls x cs l = true) (hz : cs.length ≤ 1000) :
    PE X (.Call (.Name "isinstance" p) [a, .Tuple l k p2] [] pos) (tD X.K cm px W (isxR C i cs)) := by
  obtain ⟨h1, h2, h3⟩ := gl_of hg
  obtain ⟨k1, k2, k3⟩ := pa_cls hW hl
  unfold isxR
  cases hc : C.cur with
  | none => exact ⟨fun pins st σ H Q I ⟨F, S, v, g, sr, q⟩ => q.elim⟩
  | some z =>
    obtain ⟨j, c, fs⟩ := z
    obtain ⟨ad, dd, oe, hp, hx⟩ := hW.cur j c fs hc
    refine PE_imp (pe_callB (call_xi (fs := fs) hx) (hW.glb _ h1) (hW.blt _ (by simp [bltNames])) rfl (pa_cons ha (pa_cons (pe_tup k1) pa_nil rfl) (star_cons hn)) (he := star_cons hn) (hpl := rfl)) fun σ H Q ⟨F, S, v, g, sr, q⟩ => ?_
    simp only at q
    split at q
    · rename_i hji
      subst hji
      obtain ⟨e1, e2⟩ := sr.pok.1 _ hp
      have hz' : (cs.map fun c => V.ref (cm c)).length ≤ sizeLine := by
        rw [List.length_map]
        exact Nat.le_trans hz (by decide)
      refine ⟨.ref ad, e1, hz', fun pp hpp => ?_⟩
      have t := tr_frzS (o := .tup (cs.map fun c => V.ref (cm c))) g hpp
      have b : ∀ a, S a → (upd H pp (.tup (cs.map fun c => V.ref (cm c)))) a = H a := fun a z => by
        obtain ⟨o, e⟩ := g.dom a z
        rw [upd_ne fun y => by rw [y, hpp] at e; cases e]
      refine ⟨_, _, t.gd.ex, e2.mono t.ex, (RQ.fin q t (sr.mono t.ex b (Sub.refl _))).bl t.gd.ex, .inr ⟨pp, _, _, rfl, upd_same, cls_paired, kit_any hx.xc k3⟩⟩
    · exact q.elim
theorem den_isx1 (hW : Wd cm px W x C X) {cs : List Nat} {e : Expr} (hg : x.gl "isinstance" = true) (ha : PE X a (tVar i)) (hn : notStar a = true) (hl : isCls x cs [e] = true) :
    PE X (.Call (.Name "isinstance" p) [a, e] [] pos) (tD X.K cm px W (isxR C i cs)) := by
  obtain ⟨h1, h2, h3⟩ := gl_of hg
  obtain ⟨k1, k2, k3⟩ := pa_cls hW hl
  have hlen : ∃ c0, cs = [c0] := by
    match cs, hl with
    | [], hl => simp [isCls] at hl
    | [c0], _ => exact ⟨c0, rfl⟩
    | c0 :: c1 :: r, hl => cases e <;> simp [isCls] at hl
  obtain ⟨c0, rfl⟩ := hlen
  unfold isxR
  cases hc : C.cur with
  | none => exact ⟨fun pins st σ H Q I ⟨F, S, v, g, sr, q⟩ => q.elim⟩
  | some z =>
    obtain ⟨j, c, fs⟩ := z
    obtain ⟨ad, dd, oe, hp, hx⟩ := hW.cur j c fs hc
    have hn2 : notStar e = true := by simpa using k2
    refine PE_imp (pe_callB (call_xi (fs := fs) hx) (hW.glb _ h1) (hW.blt _ (by simp [bltNames])) rfl (pa_cons ha k1 (star_cons hn)) (he := star_cons hn) (hpl := star_plain (by simp [hn2]))) fun σ H Q ⟨F, S, v, g, sr, q⟩ => ?_
    simp only at q
    split at q
    · rename_i hji
      subst hji
      obtain ⟨e1, e2⟩ := sr.pok.1 _ hp
      refine ⟨.ref ad, e1, F, _, g.ex, e2, (RQ.fin q (Tr.refl g) sr).bl g.ex, .inl ⟨_, _, rfl, .own _, ?_⟩⟩
      rw [List.any_cons, List.any_nil, Bool.or_false]
      exact hx.xc.sub c0 (k3 c0 (by simp))
    · exact q.elim
theorem den_isv (hW : Wd cm px W x C X) (hg : x.gl "isinstance" = true) (ha : PE X a (tVar i)) (hn : notStar a = true) (hu : x.gl "ValueError" = true) :
    PE X (.Call (.Name "isinstance" p) [a, .Name "ValueError" p2] [] pos) (tD X.K cm px W fun v => match C.cur with
      | some (j, _, _) => if j = i then .ok (.bl true) v else .err
      | none => .err) := by
  obtain ⟨h1, h2, h3⟩ := gl_of hg
  obtain ⟨g1, g2, g3⟩ := gl_of hu
  cases hc : C.cur with
  | none => exact ⟨fun pins st σ H Q I ⟨F, S, v, g, sr, q⟩ => q.elim⟩
  | some z =>
    obtain ⟨j, c, fs⟩ := z
    obtain ⟨ad, dd, oe, hp, hx⟩ := hW.cur j c fs hc
    have hT : PE X (.Name "ValueError" p2) (tC (.ty "ValueError")) := pe_bltn (hW.glb _ g1) (hW.blt _ (by simp [bltNames])) (u := .type "ValueError") rfl rfl
    refine PE_imp (pe_callB (call_xi (fs := fs) hx) (hW.glb _ h1) (hW.blt _ (by simp [bltNames])) rfl (pa_cons ha (pa_cons hT pa_nil rfl) (star_cons hn)) (he := star_cons hn) (hpl := rfl)) fun σ H Q ⟨F, S, v, g, sr, q⟩ => ?_
    simp only at q
    split at q
    · rename_i hji
      subst hji
      obtain ⟨e1, e2⟩ := sr.pok.1 _ hp
      exact ⟨.ref ad, e1, F, _, g.ex, e2, (RQ.fin q (Tr.refl g) sr).bl g.ex, .inl ⟨_, _, rfl, .ty _, hx.xc.ve⟩⟩
    · exact q.elim
theorem den_xfld (hW : Wd cm px W x C X) {f : Str} (ha : PE X a (tVar i)) (hc' : notCall a = true) :
    PE X (.Attribute a f pos) (tD X.K cm px W fun v => match C.cur with
      | some (j, c, fs) => if j = i ∧ (C.xf c).contains f = true then .of (fs.lookup f) v else .err
      | none => .err) := by
  cases hc : C.cur with
  | none => exact ⟨fun pins st σ H Q I ⟨F, S, v, g, sr, q⟩ => q.elim⟩
  | some z =>
    obtain ⟨j, c, fs⟩ := z
    obtain ⟨ad, dd, oe, hp, hx⟩ := hW.cur j c fs hc
    refine ⟨fun pins st σ H Q I ⟨F, S, v, g, sr, q⟩ => ?_⟩
    simp only at q
    split at q
    · rename_i hji
      obtain ⟨rfl, hf⟩ := hji
      obtain ⟨e1, e2⟩ := sr.pok.1 _ hp
      cases hd : fs.lookup f with
      | none => rw [hd] at q; exact q.elim
      | some d =>
        rw [hd] at q
        refine attr_of (base_plain hc') (thn (ha.run pins st σ H (fun y H1 => y = .ref ad ∧ H1 = H) I ⟨.ref ad, e1, rfl, rfl⟩) fun u s1 ⟨y, H1, I1, ry, ey, eH⟩ => ?_)
        subst eH
        subst ey
        obtain rfl : u = Value.ref ad := ry
        obtain ⟨od, J, hl⟩ := hx.inst I1 g.ex e2
        cases dd with
        | none =>
          have e3 : fs = [] := e2
          subst e3
          simp at hd
        | some dad =>
          obtain ⟨xs, h1, h2⟩ := e2
          obtain ⟨vv, hv, rv⟩ := repF_lookup h2 hd
          obtain ⟨o, ho, hlk⟩ := hl dad xs rfl h1
          obtain ⟨u, hu, ru⟩ := hlk f vv hv
          subst ho
          have rv' : Rep X.K cm F H1 d vv no := rv.mono (Ex.refl _) d (Sub.refl _) fun _ z => z.elim
          refine HandSPX.exc_get I1.kIn J hx.xc.xf.ga hx.xc.xf.gg hx.xc.xf.exC (PySem.W.findObj_own hx.xc.xf.hdC (hx.xc.fld f (by simpa using hf)) rfl hu) (handed_of ru) ⟨vv, H1, I1.tok _, ru, ?_⟩
          exact q vv F H1 S no ((Tr.refl g).sub (un_sub (Sub.refl _) (no_sub _))) (dj_no _) sr rv'
    · exact q.elim
end
end PI
/-! PI, part q: f-strings, a list with a replaced text, written constants. -/
namespace PI
open PySem PySem.Spec PyProof.Rows L2
section
variable {cm : Nat → Addr} {px : Px} {W : WX} {X : Cx} {a b c h o : Expr} {rest es mid : List Expr} {pos p p2 : Pos} {ea eb ec eo : Env → R D} {x : Sx} {C : PI.Ctx} {ar : Env → R (List Ar)} {s : Str} {i : Nat}
def tFmtW (te : TE) : TE := fun σ H Q => te σ H fun x H1 => (∃ y : Str, x = .str y ∧ y.length ≤ sizeLine ∧ Q (.str y) H1) ∨ ∃ i : Int, x = .int i ∧ i.natAbs < digLim ∧ Q (.str (toString i)) H1
theorem pe_fmtW {te : TE} (hc : X.calm = true) (hd : X.base.NoDigits) (he : PE X a te) : PE X (.FormattedValue a (-1) none pos) (tFmtW te) := by
  constructor
  intro pins s σ H Q I h
  apply wpAny_FormattedValue_plain
  refine thn (he.run pins s σ H _ I h) ?_
  rintro v s1 ⟨x, H1, I1, r1, q⟩
  rcases q with ⟨y, rfl, hz, q⟩ | ⟨i, rfl, hz, q⟩
  · obtain ⟨t, rfl⟩ := r1
    refine wpAny_formatField_str ⟨.str y, H1, I1, ⟨t, rfl⟩, q⟩ ?_ hz
    exact ⟨.str y, H1, I1.tok _, ⟨_, rfl⟩, q⟩
  · obtain ⟨t, rfl⟩ := r1
    refine formatField_intW (I1.ok.hd hc) (Inv_digits I1 hd) hz ?_
    exact ⟨.str (toString i), H1, I1.tok _, ⟨_, rfl⟩, q⟩
def rpS : Hp → Hp → Str → V → Set' → Prop := fun _ _ a b _ => b = V.str a
theorem den_fmt (hc : X.calm = true) (hd : X.base.NoDigits) (ha : PE X a (tD X.K cm px W ea)) :
    PE X (.FormattedValue a (-1) none p) (tR X.K cm px W rpS fun v => (ea v).bind fun x v1 => .of (fmtD x) v1) := by
  refine PE_imp (pe_fmtW hc hd ha) fun σ H Q ⟨F, S, v, g, sr, q⟩ => ?_
  refine ⟨F, S, v, g, sr, RQ.bindI q (Tr.refl g) fun da v1 xa F1 H1 S1 A1 _ q1 t1 j1 sr1 ra => ?_⟩
  have fin : ∀ {y : Str}, RQ X.K cm px W rpS (.ok y v1) F H S σ Q → Q (.str y) H1 := fun {y} q2 => q2 _ F1 H1 S1 no (t1.left.sub (un_sub (Sub.refl _) (no_sub _))) (dj_no _) sr1 rfl
  cases da with
  | str u =>
    simp only [fmtD] at q1
    split at q1
    · rename_i hz
      simp only [Rep] at ra
      exact .inl ⟨_, ra, hz, fin q1⟩
    · exact q1.elim
  | int i =>
    simp only [fmtD] at q1
    split at q1
    · rename_i hz
      simp only [Rep] at ra
      exact .inr ⟨_, ra, hz, fin q1⟩
    · exact q1.elim
  | _ => exact q1.elim
theorem den_fst {z : Str} {j : Nat} {pz : Pos} (hc : X.calm = true) (hd : X.base.NoDigits) (ha : PE X a (tD X.K cm px W ea)) (hb : PE X b (tD X.K cm px W eb)) :
    PE X (.JoinedStr [.FormattedValue a (-1) none p, .Constant (.str z) j pz, .FormattedValue b (-1) none p2] pos) (tD X.K cm px W fun v => ((ea v).bind fun x v1 => .of (fmtD x) v1).bind fun p v2 => if p.length + z.length ≤ sizeLine then ((eb v2).bind fun y v3 => .of (fmtD y) v3).bind fun q v4 =>
      if p.length + z.length + q.length ≤ sizeLine then .ok (.str (p ++ z ++ q)) v4 else .err
      else .err) := by
  refine PE_imp (pe_joined (.cons (den_fmt hc hd ha) (.cons pe_str (.cons (den_fmt hc hd hb) .nil)))) fun σ H Q ⟨F, S, v, g, sr, q⟩ => ?_
  refine ⟨F, S, v, g, sr, RQ.bindI q (Tr.refl g) fun y v1 xa F1 H1 S1 A1 _ q1 t1 j1 sr1 ra => ?_⟩
  split at q1
  · rename_i hz
    refine ⟨y, ra, by rw [Str.empty_append]; omega, z, rfl, by rw [Str.empty_append, Str.length_append]; exact hz, F1, S1, v1, t1.left.gd, sr1, RQ.bindI q1 t1.left fun w v2 xb F2 H2 S2 B2 _ q2 t2 j2 sr2 rb => ?_⟩
    split at q2
    · rename_i hz2
      refine ⟨w, rb, by rw [Str.empty_append, Str.length_append, Str.length_append]; exact hz2, ?_⟩
      have := (RQ.fin q2 (t1.left.trans t2.left) sr2).str t2.gd.ex
      rw [Str.empty_append]
      exact this
    · exact q2.elim
  · exact q1.elim
/-! ### a token is given out -/
def PE1 (X : Cx) (e : Expr) (te : TE) : Prop := ∀ (pins : List (Addr × Obj)) (s : Shared) (σ : L2.St) (H : Hp) (Q : VK), Inv X pins σ H s → te σ H Q → wpAny (model X.prog X.w) X.A (eval e X.env) (fun v s' => 1 ≤ s'.toks ∧ EP X pins σ Q v s') X.xe s
theorem PE1_imp {t t' : TE} (h : PE1 X a t) (k : ∀ σ H Q, t' σ H Q → t σ H Q) : PE1 X a t' := fun pins s σ H Q I q => h pins s σ H Q I (k σ H Q q)
theorem pe1_str {z : Str} {j : Nat} : PE1 X (.Constant (.str z) j pos) (tC (.str z)) := fun _ s _ H _ I q => Calls.Constant_str ⟨by show 1 ≤ s.toks + 1; omega, .str z, H, I.tok _, ⟨_, rfl⟩, q⟩
theorem pe1_opL {op : Operator} {r : R2} {ta tb : TE} (ho : OpR X (binaryOp op) r) (ha : PE1 X a ta) (hb : PE X b tb) : PE1 X (.BinOp a op b pos) (tOp r ta tb) := by
  intro pins s σ H Q I q
  refine wpAny_BinOp (thn (ha pins s σ H _ I q) ?_)
  rintro v s1 ⟨hk, x, H1, I1, r1, q1⟩
  refine wpAny_mono (wpAny_toks (hb.run pins s1 σ H1 _ I1 q1)) ?_ fun _ _ z => z.2
  rintro u s2 ⟨hk2, y, H2, I2, r2, q2⟩
  exact wpAny_mono (wpAny_toks (ho pins s2 σ H2 x y v u Q I2 r1 r2 q2)) (fun w s3 z => ⟨by have := z.1; omega, z.2⟩) fun _ _ z => z.2
theorem pe1_opR {op : Operator} {r : R2} {ta tb : TE} (ho : OpR X (binaryOp op) r) (ha : PE X a ta) (hb : PE1 X b tb) : PE1 X (.BinOp a op b pos) (tOp r ta tb) := by
  intro pins s σ H Q I q
  refine wpAny_BinOp (thn (ha.run pins s σ H _ I q) ?_)
  rintro v s1 ⟨x, H1, I1, r1, q1⟩
  refine thn (hb pins s1 σ H1 _ I1 q1) ?_
  rintro u s2 ⟨hk2, y, H2, I2, r2, q2⟩
  exact wpAny_mono (wpAny_toks (ho pins s2 σ H2 x y v u Q I2 r1 r2 q2)) (fun w s3 z => ⟨by have := z.1; omega, z.2⟩) fun _ _ z => z.2
theorem bin_rd {K : PySem.W.Frag} {op : Operator} {σ : L2.St} {H : Hp} {Q : VK} (h : tD K cm px W (fun v => (ea v).bind fun x v1 => (eb v1).bind fun y v2 => .of (binD op x y) v2) σ H Q) : tOp (rD K cm (binD op)) (tD K cm px W ea) (tD K cm px W eb) σ H Q := by
  obtain ⟨F, S, v, g, sr, q⟩ := h
  refine ⟨F, S, v, g, sr, RQ.bindI q (Tr.refl g) fun da v1 xa F1 H1 S1 A1 _ q1 t1 j1 sr1 ra => ?_⟩
  have gA := t1.gd.sub (sub_r S1 A1)
  refine ⟨F1, S1, v1, t1.gd.sub (sub_l _ _), sr1, RQ.bindI q1 (t1.sub (sub_l _ _)) fun db v2 xb F2 H2 S2 B2 _ q2 t2 j2 sr2 rb => ?_⟩
  cases e : binD op da db with
  | none => rw [e] at q2; exact q2.elim
  | some d =>
    rw [e] at q2
    have st := ra.stay t2 gA j1
    exact ⟨F2, da, db, d, A1, B2, t2.gd.ex, st.1, rb, e, RQ.fin q2 ((t1.sub (sub_l _ _)).trans (t2.sub (sub_l _ _))) sr2⟩
theorem den_bin1 {op : Operator} (h : (PE1 X a (tD X.K cm px W ea) ∧ PE X b (tD X.K cm px W eb)) ∨ (PE X a (tD X.K cm px W ea) ∧ PE1 X b (tD X.K cm px W eb))) :
    PE1 X (.BinOp a op b pos) (tD X.K cm px W fun v => (ea v).bind fun x v1 => (eb v1).bind fun y v2 => .of (binD op x y) v2) := by
  rcases h with ⟨ha, hb⟩ | ⟨ha, hb⟩
  · exact PE1_imp (pe1_opL (op_binD (cm := cm) op) ha hb) fun σ H Q q => bin_rd q
  · exact PE1_imp (pe1_opR (op_binD (cm := cm) op) ha hb) fun σ H Q q => bin_rd q
theorem den_c1 {z : Str} {j : Nat} : PE1 X (.Constant (.str z) j pos) (tD X.K cm px W fun v => .ok (.str z) v) :=
  PE1_imp pe1_str fun σ H Q ⟨F, S, v, g, sr, q⟩ => q _ F H S no ((Tr.refl g).sub (un_sub (Sub.refl _) (no_sub _))) (dj_no _) sr (by simp only [Rep])
theorem pa1_cons {te : TE} {ta : TA} (ha : PE1 X a te) (hr : PAT X es ta) (hs : notStar a = true) : PA X (a :: es) (tCons te ta) := by
  constructor
  intro pos pins s σ H Q I q
  rw [star_cons hs]
  show wpAny _ _ (spliced ((false, eval a X.env) :: backTo pos (starEach es X.env))) _ _ s
  refine Calls.spliced_cons (thn (ha pins s σ H _ I q) ?_)
  rintro u s1 ⟨hk, x, H1, I1, r1, q1⟩
  refine thn (hr pos pins s1 σ H1 _ hk I1 q1) ?_
  rintro us s2 ⟨xs, H2, I2, r2, q2⟩
  exact ⟨x :: xs, H2, I2, .cons r1 r2, q2⟩
def tApp (t u : TA) : TA := fun σ H Q => t σ H fun vs H1 => u σ H1 fun ws H2 => Q (vs ++ ws) H2
theorem PAT_imp {t t' : TA} (h : PAT X es t) (k : ∀ σ H Q, t' σ H Q → t σ H Q) : PAT X es t' := fun pos pins s σ H Q h1 I q => h pos pins s σ H Q h1 I (k σ H Q q)
theorem pat_nilA {tr : TA} (h : PAT X rest tr) : PAT X ([] ++ rest) (tApp (tAr X.K cm px W fun v => .ok [] v) tr) :=
  PAT_imp h fun σ H Q ⟨F, S, v, g, sr, q⟩ => q [] F H S no ((Tr.refl g).sub (un_sub (Sub.refl _) (no_sub _))) (dj_no _) sr (by simp only [ArR])
theorem pat_consA {tr : TA} (ha : PE X a (tD X.K cm px W ea)) (h : PAT X (es ++ rest) (tApp (tAr X.K cm px W ar) tr)) (hn : notStar a = true) :
    PAT X ((a :: es) ++ rest) (tApp (tAr X.K cm px W fun v => (ea v).bind fun x v1 => (ar v1).bind fun as v2 => .ok (.d x :: as) v2) tr) := by
  refine PAT_imp (pat_cons (CwR.PET.of ha) h (star_cons hn)) fun σ H Q ⟨F, S, v, g, sr, q⟩ => ?_
  refine ⟨F, S, v, g, sr, RQ.bindI q (Tr.refl g) fun da v1 xa F1 H1 S1 A1 _ q1 t1 j1 sr1 ra => ?_⟩
  have gA := t1.gd.sub (sub_r S1 A1)
  refine ⟨F1, S1, v1, t1.left.gd, sr1, RQ.bindI q1 t1.left fun as v2 vs F2 H2 S2 B2 _ q2 t2 j2 sr2 rb => ?_⟩
  have st := ra.stay t2 gA j1
  have fr := t2.frame gA j1
  refine q2 (xa :: vs) F2 H2 S2 (un A1 B2) ((t1.trans fr).sub (un_sub ((sub_l _ _).trans (sub_l _ _)) (un_sub (sub_r _ _) ((sub_r _ _).trans (sub_l _ _))))) ?_ sr2 ?_
  · intro z h1 h2
    rcases h2 with h2 | h2
    · exact st.2.2 z (.inl h1) h2
    · exact j2 z h1 h2
  · simp only [ArR]
    exact ⟨xa, vs, A1, B2, rfl, sub_l _ _, sub_r _ _, fun z h1 h2 => st.2.2 z (.inr h2) h1, st.1, rb⟩
theorem pat_vconsA {i : Nat} {tr : TA} (ha : PE X a (tVar i)) (h : PAT X (es ++ rest) (tApp (tAr X.K cm px W ar) tr)) (hn : notStar a = true) :
    PAT X ((a :: es) ++ rest) (tApp (tAr X.K cm px W fun v => match getV v i with
      | some _ => (ar v).bind fun as v2 => .ok (.v i :: as) v2
      | none => .err) tr) := by
  refine PAT_imp (pat_cons (CwR.PET.of ha) h (star_cons hn)) fun σ H Q ⟨F, S, v, g, sr, q⟩ => ?_
  simp only at q
  cases e : getV v i with
  | none => rw [e] at q; exact q.elim
  | some d =>
    rw [e] at q
    obtain ⟨xv, e1, _⟩ := sr.get e
    refine ⟨xv, e1, F, S, v, g, sr, RQ.bindI q (Tr.refl g) fun as v2 vs F2 H2 S2 B2 _ q2 t2 j2 sr2 rb => ?_⟩
    exact q2 (xv :: vs) F2 H2 S2 B2 t2 j2 sr2 (by simp only [ArR]; exact ⟨xv, vs, rfl, e1, rb⟩)
end
end PI
/-! PI, part s: the interpreter is right about expressions. -/
namespace PI
open PySem PySem.Spec PyProof.Rows L2
section
variable {cm : Nat → Addr} {px : Px} {W : WX} {X : Cx} {a b c h o : Expr} {rest es mid : List Expr} {pos p p2 : Pos} {ea eb ec eo : Env → R D} {x : Sx} {C : PI.Ctx} {ar : Env → R (List Ar)} {s : Str} {i : Nat}
theorem den_lstT {rc : Expr} {y z : Str} (h1 : PE1 X h (tD X.K cm px W ea)) (hm : PAT X (mid ++ [rc]) (tApp (tAr X.K cm px W ar) (tCons (CwR.tReplC (tD X.K cm px W eo) y z) tNil))) (hs : notStar h = true) :
    PE X (.List (h :: (mid ++ [rc])) pos) (tD X.K cm px W fun v => (ea v).bind fun x v1 => (ar v1).bind fun as v2 => (R.of (arAll as) v2).bind fun l v3 => (eo v3).bind fun s v4 =>
      (R.of (replD y z s) v4).bind fun r v5 => if l.length + 2 ≤ sizeLine then .ok (.lst .own (x :: l ++ [r])) v5 else .err) := by
  refine PE_imp (pe_lst (pa1_cons h1 hm hs)) fun σ H Q ⟨F, S, v, g, sr, q⟩ => ?_
  refine ⟨F, S, v, g, sr, RQ.bindI q (Tr.refl g) fun da v1 xa F1 H1 S1 A1 _ q1 t1 j1 sr1 ra => ?_⟩
  have gA := t1.gd.sub (sub_r S1 A1)
  refine ⟨F1, S1, v1, t1.left.gd, sr1, RQ.bindI q1 t1.left fun as v2 vs F2 H2 S2 B2 _ q2 t2 j2 sr2 rb => ?_⟩
  have st := ra.stay t2 gA j1
  cases e : arAll as with
  | none => rw [e] at q2; exact q2.elim
  | some l =>
    rw [e] at q2
    simp only [R.of_some, R.bind_ok] at q2
    have rl := arAll_ar e rb
    refine ⟨F2, S2, v2, t2.left.gd, sr2, RQ.bindI q2 (t1.left.trans t2.left) fun ds v3 xs F3 H3 S3 C3 _ q3 t3 j3 sr3 rs => ?_⟩
    cases e2 : replD y z ds with
    | none => rw [e2] at q3; exact q3.elim
    | some r =>
      rw [e2] at q3
      simp only [R.of_some, R.bind_ok] at q3
      split at q3
      · rename_i hz
        cases ds with
        | str w =>
          simp only [replD] at e2
          split at e2 <;> cases e2
          rename_i hw
          simp only [Rep] at rs
          have gAB : Gd F2 H2 (un A1 B2) := st.2.1.un (t2.gd.sub (sub_r _ _))
          have jAB : Dj S2 (un A1 B2) := fun a y w => w.elim (st.2.2 a (.inl y)) (j2 a y)
          have rAB : RepL X.K cm F2 H2 (da :: l) (xa :: vs) (un A1 B2) := by
            simp only [RepL]
            exact ⟨xa, vs, A1, B2, rfl, sub_l _ _, sub_r _ _, fun a y w => st.2.2 a (.inr w) y, st.1, rl⟩
          have b3 := t3.left.beside gAB jAB
          have tt : Tr F H S F3 H3 (un S3 (un A1 B2)) := by
            have u1 := t1.trans (t2.frame gA j1)
            have u2 := t3.left.frame gAB jAB
            exact (u1.sub (un_sub ((sub_l _ _).trans (sub_l _ _)) (un_sub (sub_r _ _) ((sub_r _ _).trans (sub_l _ _))))).trans u2
          refine ⟨w, rs, hw, ?_, fun pp hp => ?_⟩
          · simp only [List.length_cons, List.length_append, List.length_nil]
            rw [rl.len]
            omega
          · refine RQ.fin2 q3 tt b3.2.2 sr3 (tr_ownS b3.2.1 hp) ?_
            have np : ¬ (un A1 B2) pp := fun y => by
              obtain ⟨o, e'⟩ := b3.2.1.dom pp y
              rw [hp] at e'
              cases e'
            simp only [Rep]
            refine ⟨pp, _, un A1 B2, rfl, upd_same, .inl rfl, sub_r _ _, np, ?_⟩
            have r1 := rAB.mono (H' := upd H3 pp (.lst (xa :: (vs ++ [V.str (Txt.replace w y z)])))) t3.ex _ (Sub.refl _) fun a q => by
              rw [upd_ne fun y => np (by rw [← y]; exact q)]
              exact b3.1 a q
            have r2 := RepL.snoc (S2 := no) (y := .str (Txt.replace w y z)) (yv := .str (Txt.replace w y z)) r1 (by simp only [Rep]) (dj_no _)
            exact r2.mono (Ex.refl _) _ (un_sub (Sub.refl _) (no_sub _)) fun _ _ => rfl
        | _ => simp [replD] at e2
      · exact q3.elim
end
theorem lookup_fwd {sc : Scope} : ∀ {names : List (Str × NameKind)} {x : Str}, visB (names.lookup x) = true →
    visB ((names.map fun (n, k) => if (k == NameKind.free && sc.kind == .function && sc.names.lookup n == some .cell) then (n, NameKind.cell) else (n, k)).lookup x) = true
  | [], x, h => by simp [visB] at h
  | (n, k) :: r, x, h => by
    have ih := @lookup_fwd sc r x
    rw [List.map_cons]
    simp only [List.lookup] at h
    cases hx : x == n with
    | true =>
      rw [hx] at h
      simp only at h
      dsimp only
      split
      · simp [List.lookup, hx, visB]
      · simp only [List.lookup, hx]
        exact h
    | false =>
      rw [hx] at h
      simp only at h
      dsimp only
      split
      · simp only [List.lookup, hx]
        exact ih h
      · simp only [List.lookup, hx]
        exact ih h
def freB : Option NameKind → Bool
  | some .cell | some .free => true
  | _ => false
theorem lookup_fre {sc : Scope} : ∀ {names : List (Str × NameKind)} {x : Str}, freB (names.lookup x) = true →
    freB ((names.map fun (n, k) => if (k == NameKind.free && sc.kind == .function && sc.names.lookup n == some .cell) then (n, NameKind.cell) else (n, k)).lookup x) = true
  | [], x, h => by simp [freB] at h
  | (n, k) :: r, x, h => by
    have ih := @lookup_fre sc r x
    rw [List.map_cons]
    simp only [List.lookup] at h
    cases hx : x == n with
    | true =>
      rw [hx] at h
      simp only at h
      dsimp only
      split
      · simp [List.lookup, hx, freB]
      · simp only [List.lookup, hx]
        exact h
    | false =>
      rw [hx] at h
      simp only at h
      dsimp only
      split
      · simp only [List.lookup, hx]
        exact ih h
      · simp only [List.lookup, hx]
        exact ih h
theorem freB_iff {o : Option NameKind} : freB o = true ↔ (o = some .cell ∨ o = some .free) := by
  cases o with
  | none => simp [freB]
  | some k => cases k <;> simp [freB]
section
variable {cm : Nat → Addr} {px : Px} {W : WX} {X : Cx} {x : Sx} {C : PI.Ctx}
theorem vis_of {sc : Scope} {s : Str} (h : visB (sc.names.lookup s) = true) : Vis sc s := by
  unfold Vis
  cases e : sc.names.lookup s with
  | none => rw [e] at h; simp [visB] at h
  | some k => rw [e] at h; cases k <;> simp [visB] at h ⊢
theorem Wd.blk (hW : Wd cm px W x C X) (hc : C.calm = true) {scope : Scope} (s : Shared) (H : Hp) (D : Addr) (cl : List (Str × Addr)) (fp : List Addr) :
    Wd cm px0 W0 { x with sc := scope } C.nc (X.blk s H scope (compEnvC scope cl D X.env) fp) where
  names := hW.names
  nd := hW.nd
  vis := fun n h => vis_of (lookup_fwd (sc := X.env.scope) h)
  fre := fun n h => freB_iff.mp (lookup_fre (sc := X.env.scope) (freB_iff.mpr h))
  sto := fun n h => by
    have h : stoB (scope.names.lookup n) = true := h
    cases e : scope.names.lookup n with
    | none => rw [e] at h; simp [stoB] at h
    | some k =>
      rw [e] at h
      cases k <;> simp [stoB] at h
      · exact ⟨.inl (lookup_relS_keep (sc := X.env.scope) (by decide) e), .inr (lookup_relS_keep (sc := X.env.scope) (by decide) e)⟩
      · exact ⟨.inr (lookup_relS_keep (sc := X.env.scope) (by decide) e), .inl (by show (scope.names.lookup n == some .cell) = true; rw [e]; decide)⟩
  glb := fun n h => lookup_relS_keep (sc := X.env.scope) (by decide) h
  hot := by
    have h := hW.hot
    rw [hc] at h
    show HotIs _ C.calm
    rw [hc]
    exact h
  room := by
    obtain ⟨k, h1, h2⟩ := hW.room
    exact ⟨k, h1, fun s f hf => ⟨(h2 s f hf).ex⟩⟩
  tk := fun u s' ⟨_, _, _, _, _, _, _, _, _, _, _, _, _, _, _, _, w⟩ => w.elim
  dig := hW.dig
  blt := hW.blt
  gcd := hW.gcd
  cls := hW.cls
  cur := fun j c fs h => by cases h
  cur0 := fun _ => rfl
  pxc := fun i _ => PxNe.none
  con := hW.con
theorem Wd.calm (hW : Wd cm px W x C X) (hc : C.calm = true) : X.calm = true := by
  have h := hW.hot
  rw [hc] at h
  exact h
end
end PI
/-! PI, part t: the interpreter is right about every expression. -/
namespace PI
open PySem PySem.Spec PyProof.Rows L2
theorem isEs_all {x : Sx} : ∀ {es : Es} {l : List Expr}, isEs x es l = true → l.all notStar = true
  | .nil, l, h => by
    simp only [isEs, List.isEmpty_iff] at h
    subst h
    rfl
  | .cons e es, l, h => by
    simp only [isEs] at h
    split at h
    · simp only [Bool.and_eq_true] at h
      rw [List.all_cons, h.1.1, isEs_all h.2]
      rfl
    · cases h
  | .vcons i es, l, h => by
    simp only [isEs] at h
    split at h
    · simp only [Bool.and_eq_true] at h
      rw [List.all_cons, isEs_all h.2]
      rfl
    · cases h
theorem last_split {l : List Expr} {c : Expr} (h : l.getLast? = some c) : l = l.dropLast ++ [c] := by
  obtain ⟨ys, rfl⟩ := List.getLast?_eq_some_iff.mp h
  rw [List.dropLast_concat]
def isBo : Expr → Bool
  | .BoolOp .. => true
  | _ => false
theorem isO_none {x : Sx} {o : Option Expr} (h : isO x .none o = true) : o = none := by simpa [isO] using h
mutual
theorem snd_E : ∀ (e : E) {cm : Nat → Addr} {px : Px} {W : WX} {x : Sx} {C : PI.Ctx} {X : Cx} {a : Expr}, Wd cm px W x C X → isE x e a = true → PE X a (tD X.K cm px W (evE C e))
  | .non, cm, px, W, x, C, X, a, hW, h => by
    unfold isE at h
    split at h
    · exact den_c pe_non fun F H => by simp only [Rep]
    · cases h
  | .bl b, cm, px, W, x, C, X, a, hW, h => by
    unfold isE at h
    split at h
    · obtain rfl := eq_of_beq h
      exact den_c pe_bl fun F H => by simp only [Rep]
    · cases h
  | .int i, cm, px, W, x, C, X, a, hW, h => by
    unfold isE at h
    split at h
    · obtain rfl := of_decide_eq_true h
      exact den_c pe_int fun F H => by simp only [Rep]
    · cases h
  | .str i, cm, px, W, x, C, X, a, hW, h => by
    unfold isE at h
    split at h
    · obtain rfl := of_decide_eq_true h
      exact den_c pe_str fun F H => by simp only [Rep]
    · cases h
  | .var i, cm, px, W, x, C, X, a, hW, h => by
    unfold isE at h
    split at h
    · exact den_var (nm_of hW h)
    · cases h
  | .glob k, cm, px, W, x, C, X, a, hW, h => by
    unfold isE at h
    split at h
    · simp only [Bool.and_eq_true, decide_eq_true_eq] at h
      obtain ⟨g1, g2, g3⟩ := gl_of h.1
      obtain ⟨v, u, h1, h2, h3⟩ := hW.con _ _ h.2
      exact den_c (pe_glob (hW.glb _ g1) h1 h2 g2) h3
    · cases h
  | .bin op e f, cm, px, W, x, C, X, a, hW, h => by
    unfold isE at h
    split at h
    · simp only [Bool.and_eq_true, decide_eq_true_eq] at h
      obtain ⟨⟨rfl, h1⟩, h2⟩ := h
      exact den_bin (snd_E e hW h1) (snd_E f hW h2)
    · cases h
  | .neg e, cm, px, W, x, C, X, a, hW, h => by
    unfold isE at h
    split at h
    · exact den_neg (snd_E e hW h)
    · cases h
  | .cmp op e f, cm, px, W, x, C, X, a, hW, h => by
    unfold isE at h
    split at h
    · simp only [Bool.and_eq_true, decide_eq_true_eq] at h
      obtain ⟨⟨⟨rfl, h0⟩, h1⟩, h2⟩ := h
      exact den_cmp (snd_E e hW h1) (snd_E f hW h2) h0
    · cases h
  | .andE e f, cm, px, W, x, C, X, a, hW, h => by
    unfold isE at h
    split at h
    · simp only [Bool.and_eq_true] at h
      exact den_and (snd_E e hW h.1) (snd_E f hW h.2)
    · cases h
  | .orE e f, cm, px, W, x, C, X, a, hW, h => by
    unfold isE at h
    split at h
    · simp only [Bool.and_eq_true] at h
      exact den_or (snd_E e hW h.1) (snd_E f hW h.2)
    · cases h
  | .one e, cm, px, W, x, C, X, a, hW, h => by
    unfold isE at h
    split at h
    · exact pe_one (snd_E e hW h)
    · cases h
  | .notE e, cm, px, W, x, C, X, a, hW, h => by
    unfold isE at h
    split at h
    · exact den_not (snd_E e hW h)
    · cases h
  | .ife c e f, cm, px, W, x, C, X, a, hW, h => by
    unfold isE at h
    split at h
    · simp only [Bool.and_eq_true] at h
      exact den_ife (snd_T c hW h.1.1) (snd_E e hW h.1.2) (snd_E f hW h.2)
    · cases h
  | .tup es, cm, px, W, x, C, X, a, hW, h => by
    unfold isE at h
    split at h
    · exact den_tup (snd_A es hW h)
    · cases h
  | .lst es, cm, px, W, x, C, X, a, hW, h => by
    unfold isE at h
    split at h
    · exact den_lst (snd_A es hW h)
    · cases h
  | .ixv i e, cm, px, W, x, C, X, a, hW, h => by
    unfold isE at h
    split at h
    · simp only [Bool.and_eq_true] at h
      exact den_ixv (nm_of hW h.1.1) (snd_E e hW h.2) h.1.2
    · cases h
  | .idx e f, cm, px, W, x, C, X, a, hW, h => by
    unfold isE at h
    split at h
    · simp only [Bool.and_eq_true] at h
      exact den_idx (snd_E e hW h.1.2) (snd_E f hW h.2) h.1.1
    · cases h
  | .slc e lo hi, cm, px, W, x, C, X, a, hW, h => by
    unfold isE at h
    split at h
    · simp only [Bool.and_eq_true] at h
      exact den_slc (snd_E e hW h.1.1) (snd_O lo hW h.1.2) (snd_O hi hW h.2)
    · cases h
  | .call f es, cm, px, W, x, C, X, a, hW, h => by
    unfold isE at h
    split at h
    · rename_i s q l q2
      simp only [Bool.and_eq_true, decide_eq_true_eq] at h
      have hp := snd_A es hW h.2
      have ha := isEs_all h.2
      cases l with
      | cons c l => exact den_call hW h.1.2 h.1.1 hp ha
      | nil =>
        have : es = .nil := by
          have h2 := h.2
          cases es <;> simp [isEs] at h2 ⊢
        subst this
        exact den_call0 hW h.1.2 h.1.1
    · cases h
  | .biv b i, cm, px, W, x, C, X, a, hW, h => by
    unfold isE at h
    split at h
    · simp only [Bool.and_eq_true, decide_eq_true_eq] at h
      obtain ⟨⟨⟨h1, rfl⟩, h2⟩, h3⟩ := h
      exact den_biv hW b h1 h3 (nm_of hW h2) rfl
    · cases h
  | .bi b es, cm, px, W, x, C, X, a, hW, h => by
    unfold isE at h
    split at h
    · simp only [Bool.and_eq_true, decide_eq_true_eq, Bool.or_eq_true] at h
      obtain ⟨⟨⟨h1, rfl⟩, h2⟩, h3⟩ := h
      exact den_bi hW b h1 (fun z => h3.resolve_left fun y => y z) (snd_A es hW h2) (isEs_all h2)
    · cases h
  | .bm m o es, cm, px, W, x, C, X, a, hW, h => by
    unfold isE at h
    split at h
    · simp only [Bool.and_eq_true, decide_eq_true_eq] at h
      obtain ⟨⟨⟨⟨⟨rfl, h1⟩, h2⟩, h3⟩, h4⟩, h5⟩ := h
      exact den_bm m (snd_E o hW h4) (snd_A es hW h5) (isEs_all h5) h1 h2 h3
    · cases h
  | .lc own body t src cond, cm, px, W, x, C, X, a, hW, h => by
    unfold isE at h
    split at h
    · rename_i elt tg iter ifs scope q
      simp only [Bool.and_eq_true, decide_eq_true_eq] at h
      obtain ⟨⟨⟨⟨⟨⟨⟨h1, h2⟩, h3⟩, h4⟩, h5⟩, h6⟩, h7⟩, h8⟩ := h
      by_cases hc : C.calm = true
      · have hsub : ∀ j ∈ tgS t, j ∈ (ownOf x.N own).map (·.2) := fun j hj => by
          rw [h2]
          have := List.all_eq_true.mp h3 j hj
          simpa using this
        have hb : BlkOk X.N X.env.scope scope (ownOf x.N own) := by
          rw [hW.names]
          have z := blkOk_by h1
          refine ⟨z.kind, z.uniq, z.ix, fun y hy e => ?_, z.own⟩
          exact hW.fre _ (z.free y hy e)
        have r := den_lc (W := W) (px := px) (pos := q) (C := C.nc) (hW.calm hc) hW.nd (snd_I src (tg := tg) hW h6) hb hsub
          (fun s H D cl fp => den_tg (hW.blk hc s H D cl fp).wn (fun i _ => PxNe.none) (fun _ => hW.calm hc) t h5)
          (fun s H D cl fp => snd_C cond (hW.blk hc s H D cl fp) h8) (fun s H D cl fp => snd_E body (hW.blk hc s H D cl fp) h7) h4
        refine PE_imp r fun σ H Q ⟨F, S, v, g, sr, q⟩ => ⟨F, S, v, g, sr, ?_⟩
        rw [h2]
        have q : RQ X.K cm px W (Rep X.K cm) (if C.calm then _ else _) F H S σ Q := q
        rw [if_pos hc] at q
        exact q
      · refine ⟨fun pins st σ H Q I ⟨F, S, v, g, sr, q⟩ => ?_⟩
        have q : RQ X.K cm px W (Rep X.K cm) (if C.calm then _ else _) F H S σ Q := q
        rw [if_neg hc] at q
        exact q.elim
    · cases h
  | .fst e z f, cm, px, W, x, C, X, a, hW, h => by
    unfold isE at h
    split at h
    · simp only [Bool.and_eq_true, decide_eq_true_eq] at h
      obtain ⟨⟨h1, rfl⟩, h2⟩ := h
      by_cases hc : C.calm = true
      · refine PE_imp (den_fst (hW.calm hc) hW.dig (snd_E e hW h1) (snd_E f hW h2)) fun σ H Q ⟨F, S, v, g, sr, q⟩ => ⟨F, S, v, g, sr, ?_⟩
        have q : RQ X.K cm px W (Rep X.K cm) (if C.calm then _ else _) F H S σ Q := q
        rw [if_pos hc] at q
        exact q
      · refine ⟨fun pins st σ H Q I ⟨F, S, v, g, sr, q⟩ => ?_⟩
        have q : RQ X.K cm px W (Rep X.K cm) (if C.calm then _ else _) F H S σ Q := q
        rw [if_neg hc] at q
        exact q.elim
    · cases h
  | .lstT e es o y z, cm, px, W, x, C, X, a, hW, h => by
    unfold isE at h
    split at h
    · rename_i hh t q
      simp only [Bool.and_eq_true] at h
      obtain ⟨⟨⟨⟨h1, h2⟩, h3⟩, h4⟩, h5⟩ := h
      split at h5
      · rename_i l n ap u _ _ w _ _ cp heq
        simp only [Bool.and_eq_true, decide_eq_true_eq, Bool.not_eq_true'] at h5
        obtain ⟨⟨⟨⟨⟨⟨rfl, k1⟩, k2⟩, k3⟩, rfl⟩, rfl⟩, k4⟩ := h5
        have hl := last_split heq
        rw [hl]
        refine den_lstT (snd_E1 e hW h3 h2) (snd_At es hW h4 (pat_cons (CwR.pet_replC (snd_E o hW k3) k4 rfl (base_plain k1) k2) pat_nil rfl)) h1
      · cases h5
    · cases h
  | .isi i t, cm, px, W, x, C, X, a, hW, h => by
    unfold isE at h
    split at h
    · simp only [Bool.and_eq_true, decide_eq_true_eq] at h
      obtain ⟨⟨⟨⟨h1, rfl⟩, h2⟩, h3⟩, rfl⟩ := h
      exact den_isi hW t h1 (nm_of hW h2) rfl h3
    · cases h
  | .isg e t, cm, px, W, x, C, X, a, hW, h => by
    unfold isE at h
    split at h
    · simp only [Bool.and_eq_true, decide_eq_true_eq] at h
      obtain ⟨⟨⟨⟨⟨h1, rfl⟩, h2⟩, h3⟩, h4⟩, rfl⟩ := h
      exact den_isg hW t h1 (snd_E e hW h3) h2 h4
    · cases h
  | .isx i cs, cm, px, W, x, C, X, a, hW, h => by
    unfold isE at h
    split at h
    · simp only [Bool.and_eq_true, decide_eq_true_eq] at h
      obtain ⟨⟨⟨⟨h1, rfl⟩, h2⟩, h3⟩, h4⟩ := h
      exact den_isx0 hW h1 (nm_of hW h2) rfl h3 h4
    · simp only [Bool.and_eq_true, decide_eq_true_eq] at h
      obtain ⟨⟨⟨h1, rfl⟩, h2⟩, h3⟩ := h
      exact den_isx1 hW h1 (nm_of hW h2) rfl h3
    · cases h
  | .isv i, cm, px, W, x, C, X, a, hW, h => by
    unfold isE at h
    split at h
    · simp only [Bool.and_eq_true, decide_eq_true_eq] at h
      obtain ⟨⟨⟨⟨h1, rfl⟩, h2⟩, h3⟩, rfl⟩ := h
      exact den_isv hW h1 (nm_of hW h2) rfl h3
    · cases h
  | .xfld i f, cm, px, W, x, C, X, a, hW, h => by
    unfold isE at h
    split at h
    · simp only [Bool.and_eq_true, decide_eq_true_eq] at h
      obtain ⟨h1, rfl⟩ := h
      exact den_xfld hW (nm_of hW h1) rfl
    · cases h
theorem snd_E1 : ∀ (e : E) {cm : Nat → Addr} {px : Px} {W : WX} {x : Sx} {C : PI.Ctx} {X : Cx} {a : Expr}, Wd cm px W x C X → isE x e a = true → tk1 a = true → PE1 X a (tD X.K cm px W (evE C e))
  | .str i, cm, px, W, x, C, X, a, hW, h, _ => by
    unfold isE at h
    split at h
    · obtain rfl := of_decide_eq_true h
      exact den_c1
    · cases h
  | .bin op e f, cm, px, W, x, C, X, a, hW, h, k => by
    unfold isE at h
    split at h
    · simp only [Bool.and_eq_true, decide_eq_true_eq] at h
      obtain ⟨⟨rfl, h1⟩, h2⟩ := h
      simp only [tk1, Bool.or_eq_true] at k
      rcases k with k | k
      · exact den_bin1 (.inl ⟨snd_E1 e hW h1 k, snd_E f hW h2⟩)
      · exact den_bin1 (.inr ⟨snd_E e hW h1, snd_E1 f hW h2 k⟩)
    · cases h
  | .non, cm, px, W, x, C, X, a, hW, h, k | .bl _, cm, px, W, x, C, X, a, hW, h, k | .int _, cm, px, W, x, C, X, a, hW, h, k | .var _, cm, px, W, x, C, X, a, hW, h, k | .glob _, cm, px, W, x, C, X, a, hW, h, k
  | .neg _, cm, px, W, x, C, X, a, hW, h, k | .cmp _ _ _, cm, px, W, x, C, X, a, hW, h, k | .andE _ _, cm, px, W, x, C, X, a, hW, h, k | .orE _ _, cm, px, W, x, C, X, a, hW, h, k | .one _, cm, px, W, x, C, X, a, hW, h, k
  | .notE _, cm, px, W, x, C, X, a, hW, h, k | .ife _ _ _, cm, px, W, x, C, X, a, hW, h, k | .tup _, cm, px, W, x, C, X, a, hW, h, k | .lst _, cm, px, W, x, C, X, a, hW, h, k | .ixv _ _, cm, px, W, x, C, X, a, hW, h, k
  | .idx _ _, cm, px, W, x, C, X, a, hW, h, k | .slc _ _ _, cm, px, W, x, C, X, a, hW, h, k | .call _ _, cm, px, W, x, C, X, a, hW, h, k | .biv _ _, cm, px, W, x, C, X, a, hW, h, k | .bi _ _, cm, px, W, x, C, X, a, hW, h, k
  | .bm _ _ _, cm, px, W, x, C, X, a, hW, h, k | .lc _ _ _ _ _, cm, px, W, x, C, X, a, hW, h, k | .fst _ _ _, cm, px, W, x, C, X, a, hW, h, k | .lstT _ _ _ _ _, cm, px, W, x, C, X, a, hW, h, k | .isi _ _, cm, px, W, x, C, X, a, hW, h, k
  | .isg _ _, cm, px, W, x, C, X, a, hW, h, k | .isx _ _, cm, px, W, x, C, X, a, hW, h, k | .isv _, cm, px, W, x, C, X, a, hW, h, k | .xfld _ _, cm, px, W, x, C, X, a, hW, h, k => by
    exfalso
    unfold isE at h
    split at h <;> first | (cases h; done) | (simp [tk1] at k; done)
theorem snd_W : ∀ (t : T) {cm : Nat → Addr} {px : Px} {W : WX} {x : Sx} {C : PI.Ctx} {X : Cx} {a : Expr}, Wd cm px W x C X → isT x t a = true → isBo a = true → PW X a (tBo X.K cm px W (evT C t))
  | .andT e f, cm, px, W, x, C, X, a, hW, h, hb => by
    unfold isT at h
    split at h
    · simp only [Bool.and_eq_true] at h
      exact den_andT (snd_T e hW h.1) (snd_W f hW h.2 rfl)
    · cases h
  | .orT e f, cm, px, W, x, C, X, a, hW, h, hb => by
    unfold isT at h
    split at h
    · simp only [Bool.and_eq_true] at h
      exact den_orT (snd_T e hW h.1) (snd_W f hW h.2 rfl)
    · cases h
  | .oneT e, cm, px, W, x, C, X, a, hW, h, hb => by
    unfold isT at h
    split at h
    · exact den_oneT (snd_T e hW h)
    · cases h
  | .notT e, cm, px, W, x, C, X, a, hW, h, hb => by
    exfalso
    unfold isT at h
    split at h
    · cases hb
    · cases h
  | .cmpT op e f, cm, px, W, x, C, X, a, hW, h, hb => by
    exfalso
    unfold isT at h
    split at h
    · cases hb
    · cases h
  | .ev e, cm, px, W, x, C, X, a, hW, h, hb => by
    exfalso
    simp only [isT, Bool.and_eq_true] at h
    cases a <;> first | (cases hb; done) | (simp [plainTest] at h; done)
theorem snd_T : ∀ (t : T) {cm : Nat → Addr} {px : Px} {W : WX} {x : Sx} {C : PI.Ctx} {X : Cx} {a : Expr}, Wd cm px W x C X → isT x t a = true → PT X a (tBo X.K cm px W (evT C t))
  | .andT e f, cm, px, W, x, C, X, a, hW, h => by
    unfold isT at h
    split at h
    · simp only [Bool.and_eq_true] at h
      exact (den_andT (snd_T e hW h.1) (snd_W f hW h.2 rfl)).pt
    · cases h
  | .orT e f, cm, px, W, x, C, X, a, hW, h => by
    unfold isT at h
    split at h
    · simp only [Bool.and_eq_true] at h
      exact (den_orT (snd_T e hW h.1) (snd_W f hW h.2 rfl)).pt
    · cases h
  | .oneT e, cm, px, W, x, C, X, a, hW, h => by
    unfold isT at h
    split at h
    · exact (den_oneT (snd_T e hW h)).pt
    · cases h
  | .notT e, cm, px, W, x, C, X, a, hW, h => by
    unfold isT at h
    split at h
    · exact den_notT (snd_T e hW h)
    · cases h
  | .cmpT op e f, cm, px, W, x, C, X, a, hW, h => by
    unfold isT at h
    split at h
    · simp only [Bool.and_eq_true, decide_eq_true_eq] at h
      obtain ⟨⟨⟨rfl, h0⟩, h1⟩, h2⟩ := h
      exact den_cmpT (snd_E e hW h1) (snd_E f hW h2) h0
    · cases h
  | .ev e, cm, px, W, x, C, X, a, hW, h => by
    simp only [isT, Bool.and_eq_true] at h
    exact den_ev (snd_E e hW h.2) h.1
theorem snd_A : ∀ (es : Es) {cm : Nat → Addr} {px : Px} {W : WX} {x : Sx} {C : PI.Ctx} {X : Cx} {l : List Expr}, Wd cm px W x C X → isEs x es l = true → PA X l (tAr X.K cm px W (evA C es))
  | .nil, cm, px, W, x, C, X, l, hW, h => by
    simp only [isEs, List.isEmpty_iff] at h
    subst h
    exact den_nil
  | .cons e es, cm, px, W, x, C, X, l, hW, h => by
    unfold isEs at h
    split at h
    · simp only [Bool.and_eq_true] at h
      exact den_cons (snd_E e hW h.1.2) (snd_A es hW h.2) h.1.1
    · cases h
  | .vcons i es, cm, px, W, x, C, X, l, hW, h => by
    unfold isEs at h
    split at h
    · simp only [Bool.and_eq_true] at h
      exact den_vcons (nm_of hW h.1) (snd_A es hW h.2) rfl
    · cases h
theorem snd_At : ∀ (es : Es) {cm : Nat → Addr} {px : Px} {W : WX} {x : Sx} {C : PI.Ctx} {X : Cx} {l rest : List Expr} {tr : TA}, Wd cm px W x C X → isEs x es l = true → PAT X rest tr → PAT X (l ++ rest) (tApp (tAr X.K cm px W (evA C es)) tr)
  | .nil, cm, px, W, x, C, X, l, rest, tr, hW, h, hr => by
    simp only [isEs, List.isEmpty_iff] at h
    subst h
    exact pat_nilA hr
  | .cons e es, cm, px, W, x, C, X, l, rest, tr, hW, h, hr => by
    unfold isEs at h
    split at h
    · simp only [Bool.and_eq_true] at h
      exact pat_consA (snd_E e hW h.1.2) (snd_At es hW h.2 hr) h.1.1
    · cases h
  | .vcons i es, cm, px, W, x, C, X, l, rest, tr, hW, h, hr => by
    unfold isEs at h
    split at h
    · simp only [Bool.and_eq_true] at h
      exact pat_vconsA (nm_of hW h.1) (snd_At es hW h.2 hr) rfl
    · cases h
theorem snd_O : ∀ (o : Op) {cm : Nat → Addr} {px : Px} {W : WX} {x : Sx} {C : PI.Ctx} {X : Cx} {a : Option Expr}, Wd cm px W x C X → isO x o a = true → PO X a (tOi X.K cm px W (evO C o))
  | .none, cm, px, W, x, C, X, a, hW, h => by
    obtain rfl := isO_none h
    exact den_noPart
  | .some e, cm, px, W, x, C, X, a, hW, h => by
    unfold isO at h
    split at h
    · exact den_part (snd_E e hW h)
    · cases h
theorem snd_I : ∀ (i : It') {cm : Nat → Addr} {px : Px} {W : WX} {x : Sx} {C : PI.Ctx} {X : Cx} {a tg : Expr}, Wd cm px W x C X → isI x i a = true → PI X tg a (tIt X.K cm px W (evI C i))
  | .ov e, cm, px, W, x, C, X, a, tg, hW, h => by
    unfold isI at h
    exact den_ov (snd_E e hW h)
  | .rng es, cm, px, W, x, C, X, a, tg, hW, h => by
    unfold isI at h
    split at h
    · rename_i s q l q2
      simp only [Bool.and_eq_true, decide_eq_true_eq] at h
      obtain ⟨⟨h1, rfl⟩, h2⟩ := h
      have hp := snd_A es hW h2
      have ha := isEs_all h2
      cases l with
      | cons c l => exact den_rng hW h1 hp ha
      | nil =>
        have : es = .nil := by
          cases es <;> simp [isEs] at h2 ⊢
        subst this
        exact ⟨fun pins st σ H R I ⟨F, S, v, g, sr, q⟩ => q.elim⟩
    · cases h
theorem snd_C : ∀ (c : Cd) {cm : Nat → Addr} {px : Px} {W : WX} {x : Sx} {C : PI.Ctx} {X : Cx} {l : List Expr}, Wd cm px W x C X → isC x c l = true → PTs X l (tBo X.K cm px W (evC C c))
  | .none, cm, px, W, x, C, X, l, hW, h => by
    simp only [isC, List.isEmpty_iff] at h
    subst h
    refine ⟨fun pins s σ H Q I ⟨F, S, v, g, sr, q⟩ => pts_nil.run pins s σ H Q I ?_⟩
    exact q true F H S no ((Tr.refl g).sub (un_sub (Sub.refl _) (no_sub _))) (dj_no _) sr rfl
  | .some t, cm, px, W, x, C, X, l, hW, h => by
    unfold isC at h
    split at h
    · exact pts_one (snd_T t hW h)
    · cases h
end
end PI
/-! PI, part u: statements. -/
namespace PI
open PySem PySem.Spec PyProof.Rows L2
section
variable (K : PySem.W.Frag) (cm : Nat → Addr) (px : Px) (W : WX)
def RSQ (r : RS) (F H : Hp) (S : Set') (D : Ends) : Prop := match r with
  | .nx v => ∀ σ' F' H' S', Tr F H S F' H' S' → SRs K cm px F' H' v σ' S' → D.nx σ' H'
  | .brk v => ∀ σ' F' H' S', Tr F H S F' H' S' → SRs K cm px F' H' v σ' S' → D.bk σ' H'
  | .cont v => ∀ σ' F' H' S', Tr F H S F' H' S' → SRs K cm px F' H' v σ' S' → D.ct σ' H'
  | .ret d v => ∀ x σ' F' H' S1 S2, Tr F H S F' H' (un S1 S2) → Dj S1 S2 → SRs K cm px F' H' v σ' S1 → Rep K cm F' H' d x S2 → D.rt x H'
  | .exc c fs v => ∀ σ' F' H' S1 dd, Tr F H S F' H' S1 → SRs K cm px F' H' v σ' S1 → XR K cm F' H' dd fs → W (.ref (cm c)) dd σ' H'
  | .err => False
def tSt (ev : Env → RS) : TS := fun D σ H => ∃ F S v, Gd F H S ∧ SRs K cm px F H v σ S ∧ RSQ K cm px W (ev v) F H S D
end
section
variable {K : PySem.W.Frag} {cm : Nat → Addr} {px : Px} {W : WX} {α β : Type} {Rp : Hp → Hp → α → β → Set' → Prop} {F H F1 H1 F2 H2 : Hp} {S S1 S2 S3 : Set'} {σ : L2.St} {Dn : Ends}
theorem RSQ.later {r : RS} (h : RSQ K cm px W r F H S Dn) (t : Tr F H S F1 H1 S1) : RSQ K cm px W r F1 H1 S1 Dn := by
  cases r with
  | nx v => exact fun σ' F2 H2 S3 u sr => h σ' F2 H2 S3 (t.trans u) sr
  | brk v => exact fun σ' F2 H2 S3 u sr => h σ' F2 H2 S3 (t.trans u) sr
  | cont v => exact fun σ' F2 H2 S3 u sr => h σ' F2 H2 S3 (t.trans u) sr
  | ret d v => exact fun x σ' F2 H2 S3 S4 u j sr r => h x σ' F2 H2 S3 S4 (t.trans u) j sr r
  | exc c fs v => exact fun σ' F2 H2 S3 dd u sr xr => h σ' F2 H2 S3 dd (t.trans u) sr xr
  | err => exact h
theorem RSQ.bindI {r : R α} {g : α → Env → RS} {Q' : β → Hp → Prop} (h : RSQ K cm px W (r.s g) F H S Dn) (t : Tr F H S F1 H1 S1)
    (hok : ∀ a v y F2 H2 S3 S4, r = .ok a v → RSQ K cm px W (g a v) F H S Dn → Tr F1 H1 S1 F2 H2 (un S3 S4) → Dj S3 S4 → SRs K cm px F2 H2 v σ S3 → Rp F2 H2 a y S4 → Q' y H2) : RQ K cm px W Rp r F1 H1 S1 σ Q' := by
  cases r with
  | ok a v => exact fun y F2 H2 S3 S4 u j sr rp => hok a v y F2 H2 S3 S4 rfl h u j sr rp
  | exc c fs v => exact fun F2 H2 S3 dd u sr xr => h σ F2 H2 S3 dd (t.trans u) sr xr
  | err => exact h
theorem RepL.set {y : D} {yv : V} : ∀ {l : List D} {xs : List V} {S1 S2 : Set'} (n : Nat), RepL K cm F H l xs S1 → Rep K cm F H y yv S2 → Dj S1 S2 → RepL K cm F H (l.set n y) (xs.set n yv) (un S1 S2)
  | [], xs, S1, S2, n, h, r, j => by
    simp only [RepL] at h
    subst h
    simp [RepL]
  | d :: l, xs, S1, S2, 0, h, r, j => by
    simp only [RepL] at h
    obtain ⟨x, rs, T1, T2, rfl, s1, s2, j', p1, p2⟩ := h
    simp only [List.set_cons_zero, RepL]
    exact ⟨yv, rs, S2, T2, rfl, sub_r _ _, s2.trans (sub_l _ _), fun a y z => j a (s2 a z) y, r, p2⟩
  | d :: l, xs, S1, S2, n + 1, h, r, j => by
    simp only [RepL] at h
    obtain ⟨x, rs, T1, T2, rfl, s1, s2, j', p1, p2⟩ := h
    simp only [List.set_cons_succ, RepL]
    exact ⟨x, rs.set n yv, T1, un T2 S2, rfl, s1.trans (sub_l _ _), un_sub (s2.trans (sub_l _ _)) (sub_r _ _), fun a y z => z.elim (j' a y) (j a (s1 a y)), p1, RepL.set n p2 r (j.mono s2 (Sub.refl _))⟩
end
theorem PS_imp {X : Cx} {st : Stmt} {t t' : TS} (h : PS X st t) (k : ∀ D σ H, t' D σ H → t D σ H) : PS X st t' := ⟨fun pins s σ H D I q => h.run pins s σ H D I (k D σ H q)⟩
theorem PSs_imp {X : Cx} {st : List Stmt} {t t' : TS} (h : PSs X st t) (k : ∀ D σ H, t' D σ H → t D σ H) : PSs X st t' := ⟨fun pins s σ H D I q => h.run pins s σ H D I (k D σ H q)⟩
def notTup : Expr → Bool
  | .Tuple .. => false
  | _ => true
section
variable {cm : Nat → Addr} {px : Px} {W : WX} {X : Cx} {a b c tg iter : Expr} {body suite : List Stmt} {pos p p2 p3 : Pos} {ea eb ec : Env → R D} {ei : Env → R (List D)} {ct : Env → R Bool} {sb sc : Env → RS} {x : Sx} {C : PI.Ctx} {i : Nat} {s : Str}
theorem st_nil : PSs X [] (tSt X.K cm px W fun v => .nx v) := PSs_imp pss_nil fun D σ H ⟨F, S, v, g, sr, q⟩ => q σ F H S (Tr.refl g) sr
theorem st_cons {st : Stmt} {rest : List Stmt} (h1 : PS X st (tSt X.K cm px W sb)) (h2 : PSs X rest (tSt X.K cm px W sc)) : PSs X (st :: rest) (tSt X.K cm px W fun v => match sb v with
    | .nx v1 => sc v1
    | x => x) := by
  refine PSs_imp (pss_cons h1 h2) fun D σ H ⟨F, S, v, g, sr, q⟩ => ⟨F, S, v, g, sr, ?_⟩
  cases e : sb v with
  | nx v1 =>
    simp only [e] at q
    exact fun σ' F' H' S' t sr' => ⟨F', S', v1, t.gd, sr', q.later t⟩
  | brk v1 => simp only [e] at q; exact q
  | cont v1 => simp only [e] at q; exact q
  | ret d v1 => simp only [e] at q; exact q
  | exc c fs v1 => simp only [e] at q; exact q
  | err => simp only [e] at q; exact q
theorem st_pass : PS X (.Pass pos) (tSt X.K cm px W fun v => .nx v) := PS_imp ps_pass fun D σ H ⟨F, S, v, g, sr, q⟩ => q σ F H S (Tr.refl g) sr
theorem st_break : PS X (.Break pos) (tSt X.K cm px W fun v => .brk v) := PS_imp ps_break fun D σ H ⟨F, S, v, g, sr, q⟩ => q σ F H S (Tr.refl g) sr
theorem st_cont : PS X (.Continue pos) (tSt X.K cm px W fun v => .cont v) := PS_imp ps_continue fun D σ H ⟨F, S, v, g, sr, q⟩ => q σ F H S (Tr.refl g) sr
theorem st_expr (ha : PE X a (tD X.K cm px W ea)) (hn : notComp a = true) : PS X (.Expr a pos) (tSt X.K cm px W fun v => (ea v).s fun _ v1 => .nx v1) := by
  refine PS_imp (ps_expr ha (swaps_no hn)) fun D σ H ⟨F, S, v, g, sr, q⟩ => ?_
  exact ⟨F, S, v, g, sr, RSQ.bindI q (Tr.refl g) fun da v1 xa F1 H1 S1 A1 _ q1 t1 j1 sr1 ra => q1 σ F1 H1 S1 t1.left sr1⟩
theorem st_ret (ha : PE X a (tD X.K cm px W ea)) : PS X (.Return (some a) pos) (tSt X.K cm px W fun v => (ea v).s fun d v1 => .ret d v1) := by
  refine PS_imp (ps_ret ha) fun D σ H ⟨F, S, v, g, sr, q⟩ => ?_
  exact ⟨F, S, v, g, sr, RSQ.bindI q (Tr.refl g) fun da v1 xa F1 H1 S1 A1 _ q1 t1 j1 sr1 ra => q1 xa σ F1 H1 S1 A1 t1 j1 sr1 ra⟩
theorem st_retN : PS X (.Return none pos) (tSt X.K cm px W fun v => .ret .non v) :=
  PS_imp ps_retN fun D σ H ⟨F, S, v, g, sr, q⟩ => q .non σ F H S no ((Tr.refl g).sub (un_sub (Sub.refl _) (no_sub _))) (dj_no _) sr (by simp only [Rep])
theorem st_if (hc : PT X c (tBo X.K cm px W ct)) (ha : PSs X body (tSt X.K cm px W sb)) (hb : PSs X suite (tSt X.K cm px W sc)) : PS X (.If c body suite pos) (tSt X.K cm px W fun v => (ct v).s fun c v1 => if c then sb v1 else sc v1) := by
  refine PS_imp (ps_if hc ha hb) fun D σ H ⟨F, S, v, g, sr, q⟩ => ?_
  refine ⟨F, S, v, g, sr, RSQ.bindI q (Tr.refl g) fun da v1 xa F1 H1 S1 A1 _ q1 t1 j1 sr1 ra => ?_⟩
  obtain rfl : xa = da := ra
  cases xa with
  | true => exact ⟨F1, S1, v1, t1.left.gd, sr1, q1.later t1.left⟩
  | false => exact ⟨F1, S1, v1, t1.left.gd, sr1, q1.later t1.left⟩
theorem rTg_of {K : PySem.W.Frag} {F H F1 H1 : Hp} {S S1 A1 : Set'} {σ : L2.St} {Dn : Ends} {t : Tg} {d : D} {xa : V} {v1 : Env} (q : RSQ K cm px W (okR (asT C t d v1)) F H S Dn) (t1 : Tr F H S F1 H1 (un S1 A1)) (j1 : Dj S1 A1) (sr1 : SRs K cm px F1 H1 v1 σ S1) (ra : Rep K cm F1 H1 d xa A1) :
    rTg K cm px C t xa σ H1 Dn.nx := by
  cases e : asT C t d v1 with
  | none => rw [e] at q; exact q.elim
  | some v3 =>
    rw [e] at q
    exact ⟨F1, S1, A1, v1, d, v3, t1.gd, j1, sr1, ra, e, fun σ' h1 _ _ => q σ' F1 H1 _ t1 h1⟩
theorem st_asg {t : Tg} (ha : PE X a (tD X.K cm px W ea)) (hg : PG X tg (rTg X.K cm px C t)) (hs : swapsWithSole [tg] a pos.line X.env = pure false) (hw : swappedStores [tg] a X.env = pure none) (h1 : (assignEach [tg] X.env).map (·.2) = [assign tg X.env]) :
    PS X (.Assign [tg] a pos) (tSt X.K cm px W fun v => (ea v).s fun x v1 => okR (asT C t x v1)) := by
  refine PS_imp (ps_asg ha hg hs hw h1) fun D σ H ⟨F, S, v, g, sr, q⟩ => ?_
  exact ⟨F, S, v, g, sr, RSQ.bindI q (Tr.refl g) fun da v1 xa F1 H1 S1 A1 _ q1 t1 j1 sr1 ra => rTg_of q1 t1 j1 sr1 ra⟩
theorem tg_facts {t : Tg} {e a : Expr} (h : isTg x t e = true) (hn : notComp a = true) (ht : notTup a = true) : swapsWithSole [e] a pos.line X.env = pure false ∧ swappedStores [e] a X.env = pure none ∧ (assignEach [e] X.env).map (·.2) = [assign e X.env] := by
  refine ⟨swaps_no hn, ?_, ?_⟩
  · cases t <;> cases e <;> simp only [isTg, Bool.false_eq_true] at h
    · cases a <;> first | rfl | (simp [notTup] at ht; done)
    · cases a <;> first | rfl | (simp [notTup] at ht; done)
  · cases t <;> cases e <;> simp only [isTg, Bool.false_eq_true] at h <;> rfl
/-! ### loops -/
theorem st_for {t : Tg} (hp : PassesOwn (model X.prog X.w) X.A X.env X.xe) (hc : X.calm = true) (hi : PI X tg iter (tIt X.K cm px W ei)) (hg : PG X tg (rTg X.K cm px C t)) (hb : PSs X body (tSt X.K cm px W sb)) (hs : notSet iter = true) :
    PS X (.For tg iter body [] pos) (tSt X.K cm px W fun v => (ei v).s fun items v1 => forL (fun d v2 => asR C t d v2 fun v3 => sb v3) items v1) := by
  refine PS_imp (ps_for hp hc hi hg hb fun x => set_plain hs x) fun D σ H ⟨F, S, v, g, sr, q⟩ => ?_
  refine ⟨F, S, v, g, sr, RSQ.bindI q (Tr.refl g) fun items v1 J F1 H1 S1 A1 _ q1 t1 j1 sr1 yl => ?_⟩
  let P : Nat → L2.St → Hp → Prop := fun i σ' H' => ∃ F' S' v', Tr F H S F' H' S' ∧ SRs X.K cm px F' H' v' σ' S' ∧ Ex F1 F' ∧ RSQ X.K cm px W (forL (fun d v2 => asR C t d v2 fun v3 => sb v3) (items.drop i) v') F H S D
  refine ⟨fun i m σ' H' => m = items.length - i ∧ i ≤ items.length ∧ P i σ' H', ⟨items.length, by simp, Nat.zero_le _, F1, S1, v1, t1.left, sr1, Ex.refl _, q1⟩, ?_⟩
  rintro i m σ' H' ⟨rfl, hle, F', S', v', tr, srv, ex1, qr⟩
  obtain ⟨hstop, hgo⟩ := yl H' (ex1.trans tr.gd.ex)
  by_cases hlt : i < items.length
  · obtain ⟨d, hd⟩ : ∃ d, items[i]? = some d := ⟨items[i], by simp [hlt]⟩
    have hdrop : items.drop i = d :: items.drop (i + 1) := by
      rw [List.drop_eq_getElem_cons hlt]
      rw [List.getElem?_eq_getElem hlt] at hd
      cases hd
      rfl
    rw [hdrop] at qr
    simp only [forL] at qr
    obtain ⟨go, yld⟩ := hgo i d hd
    refine .inr ⟨go, P (i + 1), fun σ2 H2 pp => ⟨items.length - (i + 1), by omega, rfl, hlt, pp⟩, fun xv H'' y => ?_⟩
    obtain ⟨rfl, rx⟩ := yld xv H'' y
    have rx' : Rep X.K cm F' H'' d xv no := rx.mono ex1 d (Sub.refl _) fun _ _ => rfl
    cases ha : asT C t d v' with
    | none =>
      simp only [asR, ha] at qr
      exact qr.elim
    | some v3 =>
      simp only [asR, ha] at qr
      refine ⟨F', S', no, v', d, v3, tr.gd.un (Gd.no tr.gd.ex), dj_no _, srv, rx', ha, fun σ2 sr2 h2 hl2 => ?_⟩
      have sr2 : SRs X.K cm px F' H'' v3 σ2 S' := sr2.mono (Ex.refl _) (fun _ _ => rfl) (un_sub (Sub.refl _) (no_sub _))
      refine ⟨F', S', v3, tr.gd, sr2, ?_⟩
      cases hsb : sb v3 with
      | nx v4 =>
        rw [hsb] at qr
        exact fun σ4 F4 H4 S4 t4 sr4 => ⟨F4, S4, v4, tr.trans t4, sr4, ex1.trans t4.ex, qr⟩
      | cont v4 =>
        rw [hsb] at qr
        exact fun σ4 F4 H4 S4 t4 sr4 => ⟨F4, S4, v4, tr.trans t4, sr4, ex1.trans t4.ex, qr⟩
      | brk v4 =>
        rw [hsb] at qr
        exact fun σ4 F4 H4 S4 t4 sr4 => qr σ4 F4 H4 S4 (tr.trans t4) sr4
      | ret dd v4 =>
        rw [hsb] at qr
        exact fun xv σ4 F4 H4 S4 S5 t4 j4 sr4 r4 => qr xv σ4 F4 H4 S4 S5 (tr.trans t4) j4 sr4 r4
      | exc c fs v4 =>
        rw [hsb] at qr
        exact fun σ4 F4 H4 S4 dd t4 sr4 x4 => qr σ4 F4 H4 S4 dd (tr.trans t4) sr4 x4
      | err => rw [hsb] at qr; exact qr
  · have e : i = items.length := by omega
    subst e
    refine .inl ⟨hstop, ?_⟩
    rw [List.drop_length] at qr
    exact qr σ' F' H' S' tr srv
theorem st_while (hp : PassesOwn (model X.prog X.w) X.A X.env X.xe) (hc : PT X c (tBo X.K cm px W ct)) (hb : PSs X body (tSt X.K cm px W sb)) (n : Nat) :
    PS X (.While c body [] pos) (tSt X.K cm px W fun v => whlL ct sb n v) := by
  refine PS_imp (ps_while hp hc hb) fun D σ H ⟨F, S, v, g, sr, q⟩ => ?_
  refine ⟨fun m σ' H' => ∃ F' S' v', Tr F H S F' H' S' ∧ SRs X.K cm px F' H' v' σ' S' ∧ RSQ X.K cm px W (whlL ct sb m v') F H S D, ⟨n, F, S, v, Tr.refl g, sr, q⟩, ?_⟩
  rintro m σ' H' ⟨F', S', v', tr, srv, qr⟩
  cases m with
  | zero => exact qr.elim
  | succ m =>
    simp only [whlL] at qr
    refine ⟨F', S', v', tr.gd, srv, RSQ.bindI qr tr fun b v1 b' F1 H1 S1 A1 _ q1 t1 j1 sr1 rb => ?_⟩
    obtain rfl : b' = b := rb
    have t1 := t1.left
    cases b' with
    | false => exact q1 σ' F1 H1 S1 (tr.trans t1) sr1
    | true =>
      simp only [if_true] at q1 ⊢
      refine ⟨fun σ2 H2 => ∃ F' S' v', Tr F H S F' H2 S' ∧ SRs X.K cm px F' H2 v' σ2 S' ∧ RSQ X.K cm px W (whlL ct sb m v') F H S D, fun σ2 H2 z => ⟨m, Nat.lt_succ_self _, z⟩, F1, S1, v1, t1.gd, sr1, ?_⟩
      cases hsb : sb v1 with
      | nx v4 =>
        rw [hsb] at q1
        exact fun σ4 F4 H4 S4 t4 sr4 => ⟨F4, S4, v4, (tr.trans t1).trans t4, sr4, q1⟩
      | cont v4 =>
        rw [hsb] at q1
        exact fun σ4 F4 H4 S4 t4 sr4 => ⟨F4, S4, v4, (tr.trans t1).trans t4, sr4, q1⟩
      | brk v4 =>
        rw [hsb] at q1
        exact fun σ4 F4 H4 S4 t4 sr4 => q1 σ4 F4 H4 S4 ((tr.trans t1).trans t4) sr4
      | ret dd v4 =>
        rw [hsb] at q1
        exact fun xv σ4 F4 H4 S4 S5 t4 j4 sr4 r4 => q1 xv σ4 F4 H4 S4 S5 ((tr.trans t1).trans t4) j4 sr4 r4
      | exc c fs v4 =>
        rw [hsb] at q1
        exact fun σ4 F4 H4 S4 dd t4 sr4 x4 => q1 σ4 F4 H4 S4 dd ((tr.trans t1).trans t4) sr4 x4
      | err => rw [hsb] at q1; exact q1
end
end PI
/-! PI, part v: lists that are written; names that hold comprehensions. -/
namespace PI
open PySem PySem.Spec PyProof.Rows L2
section
variable {cm : Nat → Addr} {px : Px} {W : WX} {X : Cx} {a b c tg iter : Expr} {body suite : List Stmt} {pos p p2 p3 apos cpos : Pos} {ea eb ec ek : Env → R D} {ei : Env → R (List D)} {ct cu : Env → R Bool} {sb sc : Env → RS} {x : Sx} {C : PI.Ctx} {i : Nat} {s : Str}
theorem st_app (ha : PE X a (tD X.K cm px W ea)) (hv : PE X b (tVar i)) (hn : notStar a = true) (hc : notCall b = true) (hl : (apos.endLine == cpos.line) = true) :
    PS X (.Expr (.Call (.Attribute b "append" apos) [a] [] cpos) pos) (tSt X.K cm px W fun v => match getV v i with
      | some (.lst .own _) => (ea v).s fun x v1 => okR (appV i x v1)
      | _ => .err) := by
  have hn' : [a].all notStar = true := by simp [hn]
  refine PS_imp (ps_expr (pe_bm F.plainAttrs_list F.slot_list_append F.type_list_append mt_append hv (pa_cons ha pa_nil (star_cons hn)) (base_plain hc) (few_plain hn' (by simp)) hl (star_cons hn) rfl) (swaps_no rfl)) fun Dn σ H ⟨F, S, v, g, sr, q⟩ => ?_
  simp only at q
  cases e0 : getV v i with
  | none => rw [e0] at q; exact q.elim
  | some d0 =>
    rw [e0] at q
    have shape : ∃ l0, d0 = .lst .own l0 := by
      cases d0 with
      | lst o l => cases o <;> first | exact ⟨l, rfl⟩ | exact q.elim
      | _ => exact q.elim
    obtain ⟨l0, rfl⟩ := shape
    simp only at q
    obtain ⟨xv, e1, r0⟩ := sr.get e0
    simp only [Rep] at r0
    obtain ⟨ad, xs0, T0, rfl, hH0, _⟩ := r0
    refine ⟨.ref ad, e1, .inl ⟨rfl, xs0, .inl (.inl hH0)⟩, F, S, v, g, sr, RSQ.bindI q (Tr.refl g) fun y v1 yv F1 H1 S1 A1 _ q1 t1 j1 sr1 ry => ?_⟩
    unfold appV at q1
    cases e2 : getV v1 i with
    | none => rw [e2] at q1; exact q1.elim
    | some d =>
      rw [e2] at q1
      have shape : ∃ l, d = .lst .own l := by
        cases d with
        | lst o l => cases o <;> first | exact ⟨l, rfl⟩ | exact q1.elim
        | _ => exact q1.elim
      obtain ⟨l, rfl⟩ := shape
      simp only at q1
      split at q1
      · rename_i hz
        obtain ⟨xv', T, S', e3, r, sr', jT, sS, sT⟩ := sr1.out e2
        rw [e1] at e3
        cases e3
        obtain ⟨xs, h1, h2, h3, h4⟩ := rep_app r ry fun w y z => j1 w (sT w y) z
        refine ⟨ad, xs, yv, rfl, rfl, h1, by rw [h2]; exact hz, ?_⟩
        have tw := tr_wr (o' := .lst (xs ++ [yv])) t1.gd (.inl (sT _ h3)) h1
        have jn : Dj S' (un T A1) := fun w y z => z.elim (jT w y) (j1 w (sS w y))
        have sr2 := sr'.mono (F' := F1) (H' := upd H1 ad (.lst (xs ++ [yv]))) (Ex.refl _) (fun w z => by rw [upd_ne fun y => jT w z (by rw [y]; exact h3)]) (Sub.refl _)
        have sr3 := sr2.put' i e1 h4 jn (sub_l _ _) (sub_r _ _)
        rw [List.set_set] at sr3
        exact q1 σ F1 _ _ ((t1.trans tw).sub (un_sub (sS.trans (sub_l _ _)) (un_sub (sT.trans (sub_l _ _)) (sub_r _ _)))) sr3
      · exact q1.elim
theorem st_setix (ha : PE X a (tD X.K cm px W ea)) (hv : PE X b (tVar i)) (hk : PE X c (tD X.K cm px W ek)) (hn : notComp a = true) (hsl : notSlice c = true) :
    PS X (.Assign [.Subscript b c p] a pos) (tSt X.K cm px W fun v => (ea v).s fun x v1 => match getV v1 i with
      | some _ => (ek v1).s fun j v2 => okR (setIx i j x v2)
      | none => .err) := by
  have hsw : swapsWithSole [.Subscript b c p] a pos.line X.env = pure false := by
    unfold swapsWithSole
    exact swaps_no hn
  have hw0 : swappedStores [.Subscript b c p] a X.env = pure none := by cases a <;> rfl
  have has : ∀ v, assign (.Subscript b c p) X.env v = (do
      let ov ← holding [v] (eval b X.env)
      let iv ← holding [v, ov] (eval c X.env)
      standAt p
      holding [v, ov, iv] (setItem ov iv v)
      release [v, ov, iv] []) := fun v => by cases c <;> first | rfl | (simp [notSlice] at hsl; done)
  refine PS_imp (ps_asg ha (pg_sub hv hk set_list has) hsw hw0) fun Dn σ H ⟨F, S, v, g, sr, q⟩ => ?_
  refine ⟨F, S, v, g, sr, RSQ.bindI q (Tr.refl g) fun y v1 yv F1 H1 S1 A1 _ q1 t1 j1 sr1 ry => ?_⟩
  cases e0 : getV v1 i with
  | none => rw [e0] at q1; exact q1.elim
  | some d0 =>
    rw [e0] at q1
    simp only at q1
    obtain ⟨xv, e1, r0⟩ := sr1.get e0
    have gA := t1.gd.sub (sub_r S1 A1)
    refine ⟨xv, e1, F1, S1, v1, t1.left.gd, sr1, RSQ.bindI q1 t1.left fun j v2 jv F2 H2 S2 B2 _ q2 t2 j2 sr2 rj => ?_⟩
    have st := ry.stay t2.left gA j1
    have fr := t2.left.frame gA j1
    have tt := t1.trans fr
    unfold setIx at q2
    cases e2 : getV v2 i with
    | none => rw [e2] at q2; exact q2.elim
    | some d =>
      rw [e2] at q2
      have shape : ∃ l k, d = .lst .own l ∧ j = .int k := by
        cases d with
        | lst o l => cases o <;> cases j <;> first | exact ⟨l, _, rfl, rfl⟩ | exact q2.elim
        | _ => exact q2.elim
      obtain ⟨l, k, rfl, rfl⟩ := shape
      simp only at q2
      cases e5 : ixN l.length k with
      | none => rw [e5] at q2; exact q2.elim
      | some n =>
        rw [e5] at q2
        simp only [Option.map_some, okR_some] at q2
        simp only [Rep] at rj
        obtain ⟨xv', T, S', e3, r, sr', jT, sS, sT⟩ := sr2.out e2
        rw [e1] at e3
        cases e3
        simp only [Rep] at r
        obtain ⟨ad, xs, U, rfl, h1, h2, h3, h4, h5⟩ := r
        refine ⟨ad, xs, k, n, rfl, rj, h1, by rw [h5.len]; exact e5, ?_⟩
        have tw := tr_wr (o' := .lst (xs.set n yv)) tt.gd (.inl (sT _ h2)) h1
        have jA : Dj T A1 := fun w y z => st.2.2 w (sT w y) z
        have np : ¬ un U A1 ad := fun z => z.elim h4 (jA ad h2)
        have rn : Rep X.K cm F2 (upd H2 ad (.lst (xs.set n yv))) (.lst .own (l.set n y)) (.ref ad) (un T A1) := by
          simp only [Rep]
          refine ⟨ad, xs.set n yv, un U A1, rfl, upd_same, .inl h2, un_sub (h3.trans (sub_l _ _)) (sub_r _ _), np, ?_⟩
          refine (RepL.set n h5 st.1 (jA.mono h3 (Sub.refl _))).mono (Ex.refl _) _ (Sub.refl _) fun w z => ?_
          rw [upd_ne fun y => np (by rw [← y]; exact z)]
        have jn : Dj S' (un T A1) := fun w y z => z.elim (jT w y) (st.2.2 w (sS w y))
        have sr3 := sr'.mono (F' := F2) (H' := upd H2 ad (.lst (xs.set n yv))) (Ex.refl _) (fun w z => by rw [upd_ne fun y => jT w z (by rw [y]; exact h2)]) (Sub.refl _)
        have sr4 := sr3.put' i e1 rn jn (sub_l _ _) (sub_r _ _)
        rw [List.set_set] at sr4
        exact q2 σ F2 _ _ ((tt.trans tw).sub (un_sub (sS.trans (sub_l _ _)) (un_sub (sT.trans (sub_l _ _)) (sub_r _ _)))) sr4
/-- name = [.. for ..] on one line -/
theorem st_setLc {elt : Expr} {ifs : List Expr} {scope : Scope} {own : List (Str × Nat)} {t : Tg} {C' : PI.Ctx} {y : Str} (hc : X.calm = true) (hN : X.N.Nodup) (hpx : C.pr i = false → PxNe px i) (hy : X.N[i]? = some y) (hyl : X.env.scope.names.lookup y = some .local)
    (hsw : swapsWith (.ListComp elt [⟨tg, iter, ifs, 0⟩] scope p2) (some (.Name y p)) pos.line X.env = pure true) (hi : PI X tg iter (tIt X.K cm px W ei)) (ok : BlkOk X.N X.env.scope scope own) (hsub : ∀ j ∈ tgS t, j ∈ own.map (·.2))
    (hg : ∀ (s : Shared) (H : Hp) (D : Addr) (cl : List (Str × Addr)) (fp : List Addr), PG (X.blk s H scope (compEnvC scope cl D X.env) fp) tg (rTg X.K cm px0 C' t))
    (ht : ∀ (s : Shared) (H : Hp) (D : Addr) (cl : List (Str × Addr)) (fp : List Addr), PTs (X.blk s H scope (compEnvC scope cl D X.env) fp) ifs (tBo X.K cm px0 W0 ct))
    (he : ∀ (s : Shared) (H : Hp) (D : Addr) (cl : List (Str × Addr)) (fp : List Addr), PE (X.blk s H scope (compEnvC scope cl D X.env) fp) elt (tD X.K cm px0 W0 eb)) (hs : notSet iter = true) :
    PS X (.Assign [.Name y p] (.ListComp elt [⟨tg, iter, ifs, 0⟩] scope p2) pos) (tSt X.K cm px W fun v => ((ei v).bind fun items v1 => (lcLoop (own.map (·.2)) (lcStep C' t ct eb) items [] (wipeE v1 (own.map (·.2)))).bind fun l v6 => .ok (.lst .own l) (backE v1 v6 (own.map (·.2)))).s fun x v1 => okR (asT C (.nm i) x v1)) := by
  refine PS_imp (ps_setLc hc hN hy hyl hsw hi ok hg ht he fun x => set_plain hs x) fun Dn σ H ⟨F, S, v, g, sr, q⟩ => ?_
  refine lc_rd hsub ⟨F, S, v, g, sr, RSQ.bindI q (Tr.refl g) fun da v1 xa F1 H1 S1 A1 _ q1 t1 j1 sr1 ra => ?_⟩
  simp only [asT] at q1
  split at q1
  · exact q1.elim
  · rename_i hpr
    exact q1 _ F1 H1 _ t1 (sr1.put i (hpx (Bool.eq_false_iff.mpr hpr)) ra j1 (sub_l _ _) (sub_r _ _))
end
end PI
/-! PI, part w: raise. -/
namespace PI
open PySem PySem.Spec PyProof.Rows L2
/-- the promise of an exception's own __init__: its fields, in order -/
def spI (fs : List Str) (C : Addr) : Bool → Sp := fun _ vs H Q E => ∃ a ws, vs = .ref a :: ws ∧ ws.length = fs.length ∧ H a = some (exo a C none) ∧
  ∀ dx H', H dx = none → dx ≠ a → H' a = some (exo a C (some dx)) → H' dx = some (exd dx (fs.zip ws).reverse) → (∀ b, b ≠ a → b ≠ dx → H' b = H b) → Q .non H'
structure Ini (X : Cx) (k : Nat) (cm : Nat → Addr) (C : PI.Ctx) (c : Nat) : Prop where
  oex : OexC X.K (cm c)
  few : (C.xf c).length ≤ 100
  ini : ∃ fI fd ps, PySem.W.findIn X.K (.ref (cm c)) "__init__" = some (some (.ref fI)) ∧ PySem.W.typeIn X.K (.ref fI) = some (.type "function") ∧ Binds X.K fd ps [] ∧ FnP X.prog X.w X.K X.mg X.base k fI fd ps (spI (C.xf c) (cm c))
section
variable {cm : Nat → Addr} {px : Px} {W : WX} {X : Cx} {C : PI.Ctx} {x : Sx} {c k : Nat} {n : Str} {e : Expr} {es : List Expr} {ta : TA} {p pos cpos : Pos} {ar : Env → R (List Ar)}
theorem RoomP.make {A : Around} (r : RoomP (k + 1) A) (D : Addr) (us : List Value) (kw : List (Str × Value)) (hg : (A.under (.builtin "type.__call__" ⟨.ref D :: us, kw⟩)).guards = some []) : RoomP k (A.under (.builtin "type.__call__" ⟨.ref D :: us, kw⟩)) :=
  ⟨L2H.RoomH.make r.rm D us kw, hg⟩
theorem mk_exc (hc : X.calm = true) (hI : Ini X k cm C c) (hr : RoomP (k + 1) X.A) (hg : Gl X n) (hm : X.mg n = some (.ref (cm c))) (hdb : (n == ("__debug__" : Str)) = false) (ha : PA X (e :: es) ta) (hn : (e :: es).all notStar = true) :
    L2N.PMk X (.Call (.Name n p) (e :: es) [] cpos) (tMkO (cm c) (spI (C.xf c) (cm c) true) [] ta) := by
  intro pins s σ H Q I h
  obtain ⟨nm, q, N, bs, bm, sn, sub, ab, col, dd, k0, k1, k2, k3, k5, hC, hbm⟩ := hI.oex.cls
  obtain ⟨fI, fd, ps, iC, tI, hb, hF⟩ := hI.ini
  rw [List.all_cons, Bool.and_eq_true] at hn
  refine wpAny_Call_Name_kw (ld_glob I hg hm ?_ hdb)
  refine PySem.W.callWith_K (h₀ := X.base) I.ok.mod.kin hI.oex.kC (thn (ha.run cpos pins s σ H _ I h) ?_) (star_cons hn.1) (star_plain hn.2)
  rintro us s1 ⟨vs, H1, I1, r1, hz, q1⟩
  refine ⟨I1.kIn, ?_⟩
  show wpAny _ _ (call (.ref (cm c)) us) _ _ _
  obtain ⟨hp, ge, dr, tk, osv⟩ := s1
  have hsz : hp.objs.size ≤ hp.objs.size + 1 := Nat.le_succ _
  have hnone : H1 (hp.objs.size + 1) = none := I1.hok.fresh hsz
  have hq := q1 (hp.objs.size + 1) hnone
  rw [List.append_nil] at hq
  have kk : ∀ b o, hp.get? b = some o → ((hp.push (PySem.W.kdv_tup us)).push (PySem.HandSPX.excO (cm c) hp.objs.size)).get? b = some o := fun b o z => Heap.get?_push_of_some _ (Heap.get?_push_of_some _ z)
  have there : ((hp.push (PySem.W.kdv_tup us)).push (PySem.HandSPX.excO (cm c) hp.objs.size)).get? (hp.objs.size + 1) = some (PySem.HandSPX.excO (cm c) hp.objs.size) := by heap_get
  have I2 : Inv X pins σ (upd H1 (hp.objs.size + 1) (exo (hp.objs.size + 1) (cm c) none)) ⟨(hp.push (PySem.W.kdv_tup us)).push (PySem.HandSPX.excO (cm c) hp.objs.size), ge, dr, tk, osv⟩ :=
    I1.laid (t' := tk) (a := hp.objs.size + 1) (o := exo (hp.objs.size + 1) (cm c) none) (h' := (hp.push (PySem.W.kdv_tup us)).push (PySem.HandSPX.excO (cm c) hp.objs.size)) kk hsz (exo_ok there)
  have rv2 : Vals (V.ref (hp.objs.size + 1) :: vs) (Value.ref (hp.objs.size + 1) :: us) := .cons rfl r1
  have hl : (Value.ref (hp.objs.size + 1) :: us ++ []).length = ps.length := by
    have z := rv2.length
    rw [hF.len _ _ _ _ _ hq] at z
    rw [List.append_nil]
    exact z.symm
  have hus : us.length ≤ sizeLine := by
    rw [← Paired.length r1, sizeLine_eq]
    omega
  have b2 := hb _ (Value.ref (hp.objs.size + 1) :: us) I2.kIn hl
  rw [List.append_nil] at b2
  have hroom : RoomP k (X.A.under (.builtin "type.__call__" ⟨.ref (cm c) :: us, []⟩)) := hr.make _ _ _ hr.gd
  refine wpAny_call (PySem.HandSPX.call_own F.excBase_ValueError (fun Y => PySem.HandSPX.refsVE_contains Y bm hbm) (I1.kIn _ _ hC) (PySem.W.looks_findIn I1.kIn iC) (fun self => PySem.W.bind_fn I1.kIn self tI) hus
    (codeAny_mono (hF.run none _ X.stack _ _ ⟨Value.ref (hp.objs.size + 1) :: us, []⟩ (Value.ref (hp.objs.size + 1) :: us) _ _ (fun _ _ _ => False) hroom (show _ = none from I.ok.hd hc) (I2.env0.make (cm c) us []) b2 rv2 hq) fun r s' hq' => ?_))
  match r, hq' with
  | .error er, hq' =>
    obtain ⟨_, _, _, _, _, _, _, _, _, _, _, _, z⟩ := hq'
    exact z.elim
  | .ok (.ret u), hq' =>
    obtain ⟨v, H2, os2, bare2, un2, hok2, rv, ev, d, fs, ea, ed, hd1, q2⟩ := hq'
    subst ev
    obtain ⟨h2, g2, d2, t2, os'⟩ := s'
    obtain ⟨t0, G, J, kG, ge', hoe, na⟩ := mk_end0 (d2 := d2) (t2 := t2) I1 hsz kk un2 hok2 os2 bare2 ea ed hd1
    refine ⟨rv, ⟨hp.objs.size + 1, _, _, ⟨G, g2, d2, t2, os'⟩, _, .ref (cm c), some d, rfl, J, kG, ge', hoe, ⟨rfl, rfl, fun vs hv => ?_⟩, rfl, rfl, na, rfl, bare2, raises_own hI.oex.exC hI.oex.tyC, q2⟩⟩
    cases hv
    rfl
  | .ok .next, hq' => exact False.elim hq'
  | .ok .brk, hq' => exact False.elim hq'
  | .ok .cont, hq' => exact False.elim hq'
end
end PI
/-! PI, part x: raise and try. -/
namespace PI
open PySem PySem.Spec PyProof.Rows L2
structure Ws (cm : Nat → Addr) (px : Px) (W : WX) (x : Sx) (C : PI.Ctx) (X : Cx) : Prop where
  wd : Wd cm px W x C X
  po : PassesOwn (model X.prog X.w) X.A X.env X.xe
  hs : X.stack = X.env :: X.outer
  hf : X.env.frame = some X.env.locals
  kd : X.env.scope.kind = .function
  sc : X.env.scope = x.sc
  rs : C.rcs ≠ [] → ∃ k, RoomP (k + 1) X.A ∧ ∀ c ∈ C.rcs, Ini X k cm C c
  xcl : ∀ c ∈ C.rcs, XCls X.K cm C (x.g.cs.map (·.2)) c
theorem RepF.snoc {K : PySem.W.Frag} {cm : Nat → Addr} {F H : Hp} {n : Str} {d : D} {y : V} : ∀ {fs : Fs} {xs : List (Str × V)}, RepF K cm F H fs xs no → Rep K cm F H d y no → RepF K cm F H (fs ++ [(n, d)]) (xs ++ [(n, y)]) no
  | [], xs, h, r => by
    simp only [RepF] at h
    subst h
    simp only [List.nil_append, RepF]
    exact ⟨y, [], no, no, rfl, no_sub _, no_sub _, no_dj _, r, rfl⟩
  | (m, e) :: fs, xs, h, r => by
    simp only [RepF] at h
    obtain ⟨z, rs, T1, T2, rfl, s1, s2, j, p1, p2⟩ := h
    simp only [List.cons_append, RepF]
    exact ⟨z, rs ++ [(n, y)], no, no, rfl, no_sub _, no_sub _, no_dj _, p1.mono (Ex.refl _) _ s1 fun _ _ => rfl, RepF.snoc (p2.mono (Ex.refl _) _ s2 fun _ _ => rfl) r⟩
theorem repF_zip {K : PySem.W.Frag} {cm : Nat → Addr} {F H : Hp} : ∀ {ns : List Str} {l : List D} {vs : List V}, RepL K cm F H l vs no → RepF K cm F H (ns.zip l).reverse (ns.zip vs).reverse no
  | [], l, vs, h => by simp [RepF]
  | n :: ns, [], vs, h => by
    simp only [RepL] at h
    subst h
    simp [RepF]
  | n :: ns, d :: l, vs, h => by
    simp only [RepL] at h
    obtain ⟨z, rs, T1, T2, rfl, s1, s2, j, p1, p2⟩ := h
    simp only [List.zip_cons_cons, List.reverse_cons]
    exact RepF.snoc (repF_zip (p2.mono (Ex.refl _) _ s2 fun _ _ => rfl)) (p1.mono (Ex.refl _) _ s1 fun _ _ => rfl)
section
variable {cm : Nat → Addr} {px : Px} {W : WX} {X : Cx} {C : PI.Ctx} {x : Sx} {c i : Nat} {n u : Str} {e : Expr} {es : List Expr} {body suite : List Stmt} {b0 : Stmt} {p np pos pos' cpos : Pos} {ar : Env → R (List Ar)}
theorem st_raise (hW : Ws cm px W x C X) (hu : x.gl n = true) (hl : x.g.cs.lookup n = some c) (ha : PA X (e :: es) (tAr X.K cm px W ar)) (hn : (e :: es).all notStar = true) :
    PS X (.Raise (some (.Call (.Name n p) (e :: es) [] cpos)) none pos) (tSt X.K cm px W fun v => if C.calm && C.rcs.contains c then (ar v).s fun as v1 => (R.of (arAll as) v1).s fun l v2 =>
      if D.frozenL l && decide ((C.xf c).length = l.length) then .exc c ((C.xf c).zip l).reverse v2 else .err
    else .err) := by
  by_cases hc : C.calm = true
  · by_cases hr : C.rcs.contains c = true
    · have hmem : c ∈ C.rcs := by simpa using hr
      obtain ⟨k, h1, h2⟩ := hW.rs fun z => by rw [z] at hmem; cases hmem
      have hI := h2 c hmem
      obtain ⟨g1, g2, g3⟩ := gl_of hu
      refine PS_imp (L2N.ps_raise (hW.wd.calm hc) hW.wd.tk (mk_exc (hW.wd.calm hc) hI h1 (hW.wd.glb _ g1) (hW.wd.cls n c hl) g2 ha hn)) fun Dn σ H ⟨F, S, v, g, sr, q⟩ => ?_
      simp only [hc, hr, Bool.and_self, if_true] at q
      refine ⟨F, S, v, g, sr, RSQ.bindI q (Tr.refl g) fun as v1 vs F1 H1 S1 A1 _ q1 t1 j1 sr1 rb => ?_⟩
      cases e1 : arAll as with
      | none => rw [e1] at q1; exact q1.elim
      | some l =>
        rw [e1] at q1
        simp only [R.of_some, R.s_ok] at q1
        have rl := arAll_ar e1 rb
        split at q1
        · rename_i hz
          simp only [Bool.and_eq_true, decide_eq_true_eq] at hz
          have rl' := frzL hz.1 rl
          have hlen : vs.length = (C.xf c).length := by rw [rl.len, hz.2]
          refine ⟨by have := hI.few; omega, fun ad had => ⟨ad, vs, by rw [List.append_nil], hlen, upd_same, fun dx H' n1 n2 h3 h4 h5 => ⟨rfl, dx, _, h3, h4, ?_, ?_⟩⟩⟩
          · rw [upd_ne n2] at n1
            exact n1
          · rw [upd_ne n2] at n1
            have eH : upd (del H' ad) dx (.xd ((C.xf c).zip vs).reverse) = upd H1 dx (.xd ((C.xf c).zip vs).reverse) := by
              funext b
              by_cases z : b = dx
              · rw [z, upd_same, upd_same]
              · rw [upd_ne z, upd_ne z]
                by_cases y : b = ad
                · rw [y, del_same, had]
                · rw [del_ne y, h5 b y z, upd_ne y]
            rw [eH]
            have t2 := tr_frzS (o := .xd ((C.xf c).zip vs).reverse) t1.left.gd n1
            have hb : ∀ a, S1 a → (upd H1 dx (.xd ((C.xf c).zip vs).reverse)) a = H1 a := fun a z => by
              obtain ⟨o, e⟩ := t1.gd.dom a (.inl z)
              rw [upd_ne fun y => by rw [y, n1] at e; cases e]
            refine q1 σ _ _ S1 (some dx) (t1.left.trans t2) (sr1.mono t2.ex hb (Sub.refl _)) ⟨_, upd_same, ?_⟩
            exact repF_zip (rl'.mono t2.ex _ (Sub.refl _) fun _ z => z.elim)
        · exact q1.elim
    · refine ⟨fun pins st σ H D I ⟨F, S, v, g, sr, q⟩ => ?_⟩
      simp only [hr, Bool.and_false, Bool.false_eq_true, if_false] at q
      exact q.elim
  · refine ⟨fun pins st σ H D I ⟨F, S, v, g, sr, q⟩ => ?_⟩
    simp only [hc, Bool.false_and, Bool.false_eq_true, if_false] at q
    exact q.elim
/-- what the suite wants, by data -/
def tSui (K : PySem.W.Frag) (cm : Nat → Addr) (px : Px) (C : PI.Ctx) (cl : List Nat) (i : Nat) (sui : PI.Ctx → Env → RS) : Addr → Value → Option Addr → TS := fun a cls d D σ H =>
  ∃ c' fs, cls = .ref (cm c') ∧ XCls K cm C cl c' ∧ tSt K cm ⟨some (i, a, d, fs), px.fx⟩ W0 (sui { C with cur := some (i, c', fs), calm := false }) D σ H
theorem SRs.enter {K : PySem.W.Frag} {F H : Hp} {S : Set'} {v : Env} {σ : L2.St} (h : SRs K cm px F H v σ S) (n : PxNe px i) (hi : i < v.length) {a : Addr} {dd : Option Addr} {fs : Fs} (r : XR K cm F H dd fs) :
    SRs K cm ⟨some (i, a, dd, fs), px.fx⟩ F H (v.set i none) (σ.set i (some (.ref a))) S := by
  have h0 := (h.nopx.drop i)
  have h1 : SRs K cm px0 F H (v.set i none) (σ.set i (some (.ref a))) S := h0.sig (by simp) (fun _ => PxOk.none) fun j d e => by
    by_cases z : j = i
    · subst z
      rw [List.getElem?_set_self'] at e
      cases w : v[j]? <;> rw [w] at e <;> cases e
    · rw [List.getElem?_set_ne (Ne.symm z)]
  refine ⟨h1.1, ⟨fun q z => ?_, fun j y z => ?_⟩, h1.2.2⟩
  · cases z
    refine ⟨?_, r.mono (Ex.refl _)⟩
    rw [List.getElem?_set_self (by rw [← h.1]; exact hi)]
  · rw [List.getElem?_set_ne (fun e => by rw [← e, n.2] at z; cases z)]
    exact h.2.1.2 j y z
theorem SRs.leave {K : PySem.W.Frag} {F H : Hp} {S : Set'} {v : Env} {σ : L2.St} {e : Option (Nat × Addr × Option Addr × Fs)} (h : SRs K cm ⟨e, px.fx⟩ F H v σ S) (he : px.ex = none) (n : PxNe px i) :
    SRs K cm px F H (v.set i none) (σ.set i none) S := by
  have h0 := (h.nopx.drop i)
  have h1 : SRs K cm px0 F H (v.set i none) (σ.set i none) S := h0.sig (by simp) (fun _ => PxOk.none) fun j d e => by
    by_cases z : j = i
    · subst z
      rw [List.getElem?_set_self'] at e
      cases w : v[j]? <;> rw [w] at e <;> cases e
    · rw [List.getElem?_set_ne (Ne.symm z)]
  refine ⟨h1.1, ⟨fun q z => (by rw [he] at z; cases z), fun j y z => ?_⟩, h1.2.2⟩
  rw [List.getElem?_set_ne (fun e => by rw [← e, n.2] at z; cases z)]
  exact h.2.1.2 j y z
theorem Wd.sui (hW : Wd cm px W x C X) (hcu : C.cur = none) {a : Addr} {oe : Obj} {d : Option Addr} {pn : List (Addr × Obj)} {c' : Nat} {fs : Fs} (hx : XCls X.K cm C (x.g.cs.map (·.2)) c') (hz : L2N.Zn (.ref (cm c')) d oe) (hf : ∃ vs, oe.data = .fields vs) :
    Wd cm ⟨some (i, a, d, fs), px.fx⟩ W0 x { C with cur := some (i, c', fs), calm := false } (X.suite a ((a, oe) :: pn)) where
  names := hW.names
  nd := hW.nd
  vis := hW.vis
  fre := hW.fre
  sto := hW.sto
  glb := hW.glb
  hot := by
    obtain ⟨vs, e⟩ := hf
    exact ⟨(a, oe), ⟨rfl, vs, e, hz.2.2 vs e⟩, List.mem_cons_self⟩
  room := by
    obtain ⟨k, h1, h2⟩ := hW.room
    exact ⟨k, ⟨⟨h1.rm.dp, h1.rm.un⟩, h1.gd⟩, fun s f hf => ⟨(h2 s f hf).ex⟩⟩
  tk := fun u s' ⟨_, _, _, _, _, _, _, _, _, _, _, _, _, _, _, _, w⟩ => w.elim
  dig := hW.dig
  blt := hW.blt
  gcd := hW.gcd
  cls := hW.cls
  cur := fun j c fs' h => by
    cases h
    exact ⟨a, d, oe, rfl, ⟨List.mem_cons_self, hz.1, hz.2.1, hf, ⟨hx.ec, hx.xf, hx.fld, hx.sub, hx.exm, hx.ve⟩⟩⟩
  cur0 := fun h => by cases h
  pxc := fun j h => by
    simp only [Ctx.pr, Bool.or_eq_false_iff, decide_eq_false_iff_not] at h
    have h1 := hW.pxc j (by simp only [Ctx.pr, hcu, h.1, Bool.or_self])
    exact ⟨fun q z y => by cases z; exact h.2 y, h1.2⟩
  con := hW.con
theorem Ws.tr (hW : Ws cm px W x C X) (hc : C.calm = true) (hcu : C.cur = none) {W' : WX} {pn : List (Addr × Obj)} {xe : Value → Shared → Prop} (tk : L2N.Takes (X.tr pn xe) W') (po : PassesOwn (model X.prog X.w) X.A X.env xe) : Ws cm px W' x C (X.tr pn xe) where
  wd := {
    names := hW.wd.names
    nd := hW.wd.nd
    vis := hW.wd.vis
    fre := hW.wd.fre
    sto := hW.wd.sto
    glb := hW.wd.glb
    hot := by
      have h := hW.wd.hot
      rw [hc] at h ⊢
      exact h
    room := by
      obtain ⟨k, h1, h2⟩ := hW.wd.room
      exact ⟨k, h1, fun s f hf => ⟨(h2 s f hf).ex⟩⟩
    tk := tk
    dig := hW.wd.dig
    blt := hW.wd.blt
    gcd := hW.wd.gcd
    cls := hW.wd.cls
    cur := fun j c fs h => by rw [hcu] at h; cases h
    cur0 := hW.wd.cur0
    pxc := hW.wd.pxc
    con := hW.wd.con }
  po := po
  hs := hW.hs
  hf := hW.hf
  kd := hW.kd
  sc := hW.sc
  rs := fun h => by
    obtain ⟨k, h1, h2⟩ := hW.rs h
    exact ⟨k, h1, fun c hc => ⟨(h2 c hc).oex, (h2 c hc).few, (h2 c hc).ini⟩⟩
  xcl := hW.xcl
theorem Ws.sui (hW : Ws cm px W x C X) (hcu : C.cur = none) {a : Addr} {oe : Obj} {d : Option Addr} {pn : List (Addr × Obj)} {c' : Nat} {fs : Fs} (hx : XCls X.K cm C (x.g.cs.map (·.2)) c') (hz : L2N.Zn (.ref (cm c')) d oe) (hf : ∃ vs, oe.data = .fields vs) :
    Ws cm ⟨some (i, a, d, fs), px.fx⟩ W0 x { C with cur := some (i, c', fs), calm := false } (X.suite a ((a, oe) :: pn)) where
  wd := hW.wd.sui hcu hx hz hf
  po := PassesOwn.never
  hs := hW.hs
  hf := hW.hf
  kd := hW.kd
  sc := hW.sc
  rs := fun h => by
    obtain ⟨k, h1, h2⟩ := hW.rs h
    exact ⟨k, ⟨⟨h1.rm.dp, h1.rm.un⟩, h1.gd⟩, fun c hc => ⟨(h2 c hc).oex, (h2 c hc).few, (h2 c hc).ini⟩⟩
  xcl := fun c hc => by
    have h := hW.xcl c hc
    exact ⟨h.ec, h.xf, h.fld, h.sub, h.exm, h.ve⟩
theorem st_try {bev : PI.Ctx → Env → RS} {sev : PI.Ctx → Env → RS} (hW : Ws cm px W x C X) (hu : x.gl u = true) (hl : x.g.cs.lookup u = some c) (hN : x.N[i]? = some n) (hln : x.sc.names.lookup n = some .local)
    (hb : ∀ {W' : WX} {X' : Cx}, X'.K = X.K → Ws cm px W' x C X' → PSs X' body (tSt X'.K cm px W' (bev C)))
    (hs : ∀ {px' : Px} {C' : PI.Ctx} {X' : Cx}, X'.K = X.K → Ws cm px' W0 x C' X' → PSs X' (b0 :: suite) (tSt X'.K cm px' W0 (sev C'))) :
    PS X (.Try body [.ExceptHandler (some (.Name u np)) (some n) (b0 :: suite) pos'] [] [] pos) (tSt X.K cm px W fun v => if C.calm && !C.pr i && C.cur.isNone then match bev C v with
      | .exc c' fs v1 => if C.rcs.contains c' && decide (i < v1.length) then if C.sub c' c then match sev { C with cur := some (i, c', fs), calm := false } (v1.set i none) with
          | .nx v2 => .nx (v2.set i none)
          | .brk v2 => .brk (v2.set i none)
          | .cont v2 => .cont (v2.set i none)
          | .ret d v2 => .ret d (v2.set i none)
          | _ => .err
          else .exc c' fs v1
        else .err
      | r => r
    else .err) := by
  by_cases hcc : (C.calm && !C.pr i && C.cur.isNone) = true
  · have hcc' := hcc
    simp only [Bool.and_eq_true, Bool.not_eq_true', Option.isNone_iff_eq_none] at hcc'
    obtain ⟨⟨hc, hpr⟩, hcu⟩ := hcc'
    obtain ⟨g1, g2, g3⟩ := gl_of hu
    have hne : PxNe px i := hW.wd.pxc i hpr
    have hpe : px.ex = none := hW.wd.cur0 hcu
    have hcm : c ∈ x.g.cs.map (·.2) := List.mem_map.mpr ⟨(u, c), PySem.mem_of_lookup hl, rfl⟩
    refine PS_imp (L2N.ps_try_as (c := .ref (cm c)) (i := i) (n := n) (tb := fun W' => tSt X.K cm px W' (bev C)) (ts := tSui X.K cm px C (x.g.cs.map (·.2)) i sev) (Wout := W) hW.hs hW.hf hW.wd.nd (by rw [hW.wd.names]; exact hN) ?_ ⟨hW.wd.glb _ g1, g2, .inl (hW.wd.cls u c hl)⟩ hW.wd.tk ?_ ?_) fun Dn σ H ⟨F, S, v, g, sr, q⟩ => ?_
    · show X.env.scope.names.lookup n = some .local
      rw [hW.sc]
      exact hln
    · exact fun W' pn xe tk po => hb rfl (hW.tr hc hcu tk po)
    · intro a oe cls d pn hz hf
      refine ⟨fun pins s σ H D I ⟨c', fs, e, hx, q⟩ => ?_⟩
      subst e
      exact (hs (X' := X.suite a ((a, oe) :: pn)) rfl (hW.sui (i := i) (pn := pn) hcu hx hz hf)).run pins s σ H D I q
    · simp only [hcc, if_true] at q
      refine ⟨F, S, v, g, sr, ?_⟩
      cases e : bev C v with
      | nx v1 => rw [e] at q; exact q
      | brk v1 => rw [e] at q; exact q
      | cont v1 => rw [e] at q; exact q
      | ret d v1 => rw [e] at q; exact q
      | err => rw [e] at q; exact q
      | exc c' fs v1 =>
        rw [e] at q
        simp only at q
        split at q
        · rename_i hrc
          simp only [Bool.and_eq_true, decide_eq_true_eq] at hrc
          have hx := hW.xcl c' (by simpa using hrc.1)
          intro σ' F' H' S1 dd t sr1 xr
          refine ⟨C.sub c' c, hx.exm c hcm, fun hb ad had => ?_, fun hb => ?_⟩
          · rw [if_pos hb] at q
            have hi : i < v1.length := hrc.2
            refine ⟨c', fs, rfl, hx, F', S1, v1.set i none, t.gd, sr1.enter hne hi xr, ?_⟩
            cases e2 : sev { C with cur := some (i, c', fs), calm := false } (v1.set i none) with
            | nx v2 => rw [e2] at q; exact fun σ2 F2 H2 S2 t2 sr2 => q _ F2 H2 S2 (t.trans t2) (sr2.leave hpe hne)
            | brk v2 => rw [e2] at q; exact fun σ2 F2 H2 S2 t2 sr2 => q _ F2 H2 S2 (t.trans t2) (sr2.leave hpe hne)
            | cont v2 => rw [e2] at q; exact fun σ2 F2 H2 S2 t2 sr2 => q _ F2 H2 S2 (t.trans t2) (sr2.leave hpe hne)
            | ret d v2 => rw [e2] at q; exact fun xv σ2 F2 H2 S2 S3 t2 j2 sr2 r2 => q xv _ F2 H2 S2 S3 (t.trans t2) j2 (sr2.leave hpe hne) r2
            | exc _ _ _ => rw [e2] at q; exact q.elim
            | err => rw [e2] at q; exact q.elim
          · rw [if_neg (by rw [hb]; exact Bool.false_ne_true)] at q
            exact q σ' F' H' S1 dd t sr1 xr
        · exact q.elim
  · refine ⟨fun pins st σ H D I ⟨F, S, v, g, sr, q⟩ => ?_⟩
    simp only [hcc, Bool.false_eq_true, if_false] at q
    exact q.elim
end
end PI
/-! PI, part y: the interpreter is right about statements. -/
namespace PI
open PySem PySem.Spec PyProof.Rows L2
/-- name = [.. for ..] on one line: the swapped list -/
def lcSet (x : Sx) (s : Str) (py : Pos) : Expr → Bool
  | .ListComp _ [_] scope pos => decide (x.sc.names.lookup s = some .local) && (py.line == pos.line) && !(scope.names.any fun (n, k) => n == s && (k == .local || k == .cell))
  | _ => false
mutual
def isS (x : Sx) : S → Stmt → Bool
  | .expr e, st => match st with | .Expr a _ => notComp a && isE x e a | _ => false
  | .set i e, st => match st with | .Assign [.Name s p] a _ => x.st i s && (notComp a || lcSet x s p a) && isE x e a | _ => false
  | .unp is e, st => match st with | .Assign [.Tuple ts _ _] a _ => isTgs x is ts && notComp a && notTup a && isE x e a | _ => false
  | .setix i k e, st => match st with | .Assign [.Subscript (.Name s _) c _] a _ => x.nm i s && notSlice c && notComp a && isE x k c && isE x e a | _ => false
  | .app i e, st => match st with | .Expr (.Call (.Attribute (.Name s _) n ap) [a] [] cp) _ => decide (n = ("append" : Str)) && x.nm i s && notStar a && (ap.endLine == cp.line) && isE x e a | _ => false
  | .aug _ _ _, _ => false
  | .ret e, st => match st with | .Return (some a) _ => isE x e a | _ => false
  | .retN, st => match st with | .Return none _ => true | _ => false
  | .ife c a b, st => match st with | .If t l r _ => isT x c t && isSs x a l && isSs x b r | _ => false
  | .forS t src body, st => match st with | .For tg it l [] _ => notSet it && isTg x t tg && isI x src it && isSs x body l | _ => false
  | .whl c body, st => match st with | .While t l [] _ => isT x c t && isSs x body l | _ => false
  | .brk, st => match st with | .Break _ => true | _ => false
  | .cont, st => match st with | .Continue _ => true | _ => false
  | .pass, st => match st with | .Pass _ => true | _ => false
  | .raise c es, st => match st with | .Raise (some (.Call (.Name s _) (a :: l) [] _)) none _ => x.gl s && decide (x.g.cs.lookup s = some c) && isEs x es (a :: l) | _ => false
  | .tryS body c i suite, st => match st with
    | .Try l [.ExceptHandler (some (.Name u _)) (some n) (b0 :: r) _] [] [] _ => x.gl u && decide (x.g.cs.lookup u = some c) && decide (x.N[i]? = some n) && decide (x.sc.names.lookup n = some .local) && isSs x body l && isSs x suite (b0 :: r)
    | _ => false
def isSs (x : Sx) : Ss → List Stmt → Bool
  | .nil, l => l.isEmpty
  | .cons s r, l => match l with | a :: t => isS x s a && isSs x r t | _ => false
end
mutual
theorem snd_S : ∀ (t : S) {cm : Nat → Addr} {px : Px} {W : WX} {x : Sx} {C : PI.Ctx} {X : Cx} {st : Stmt}, Ws cm px W x C X → isS x t st = true → PS X st (tSt X.K cm px W (exS C t))
  | .expr e, cm, px, W, x, C, X, st, hW, h => by
    unfold isS at h
    split at h
    · simp only [Bool.and_eq_true] at h
      exact st_expr (snd_E e hW.wd h.2) h.1
    · cases h
  | .set i e, cm, px, W, x, C, X, st, hW, h => by
    unfold isS at h
    split at h
    · rename_i s p a q
      simp only [Bool.and_eq_true, Bool.or_eq_true] at h
      obtain ⟨⟨h1, h2⟩, h3⟩ := h
      by_cases hn : notComp a = true
      · exact st_asg (t := .nm i) (snd_E e hW.wd h3) (den_tg hW.wd.wn hW.wd.pxc hW.wd.calm (.nm i) h1) (by unfold swapsWithSole; exact swaps_no hn) (by cases a <;> rfl) rfl
      · have h2 := h2.resolve_left hn
        cases a with
        | ListComp elt gs scope lp =>
          match gs, h2 with
          | [g], h2 =>
            simp only [lcSet, Bool.and_eq_true, decide_eq_true_eq, Bool.not_eq_true'] at h2
            obtain ⟨⟨k1, k2⟩, k3⟩ := h2
            cases e with
            | lc own body t src cond =>
              unfold isE at h3
              split at h3
              · rename_i elt' tg iter ifs scope' q' heq
                cases heq
                simp only [Bool.and_eq_true, decide_eq_true_eq] at h3
                obtain ⟨⟨⟨⟨⟨⟨⟨g1, g2⟩, g3⟩, g4⟩, g5⟩, g6⟩, g7⟩, g8⟩ := h3
                by_cases hc : C.calm = true
                · have hsub : ∀ j ∈ tgS t, j ∈ (ownOf x.N own).map (·.2) := fun j hj => by
                    rw [g2]
                    have := List.all_eq_true.mp g3 j hj
                    simpa using this
                  have hb : BlkOk X.N X.env.scope scope (ownOf x.N own) := by
                    rw [hW.wd.names, hW.sc]
                    exact blkOk_by g1
                  simp only [Sx.st, Bool.and_eq_true, decide_eq_true_eq] at h1
                  have k1' : X.env.scope.names.lookup s = some .local := by rw [hW.sc]; exact k1
                  have r := st_setLc (W := W) (px := px) (pos := q) (p := p) (p2 := lp) (C := C) (C' := C.nc) (i := i) (y := s) (hW.wd.calm hc) hW.wd.nd (hW.wd.pxc i) (by rw [hW.wd.names]; exact h1.1) k1'
                    (sw_true hW.kd k1' k2 k3) (snd_I src (tg := tg) hW.wd g6) hb hsub
                    (fun s H D cl fp => den_tg (hW.wd.blk hc s H D cl fp).wn (fun i _ => PxNe.none) (fun _ => hW.wd.calm hc) t g5)
                    (fun s H D cl fp => snd_C cond (hW.wd.blk hc s H D cl fp) g8) (fun s H D cl fp => snd_E body (hW.wd.blk hc s H D cl fp) g7) g4
                  refine PS_imp r fun Dn σ H ⟨F, S, v, g, sr, q⟩ => ⟨F, S, v, g, sr, ?_⟩
                  rw [g2]
                  have q : RSQ X.K cm px W (R.s (if C.calm then _ else _) _) F H S Dn := q
                  rw [if_pos hc] at q
                  exact q
                · refine ⟨fun pins st σ H D I ⟨F, S, v, g, sr, q⟩ => ?_⟩
                  have q : RSQ X.K cm px W (R.s (if C.calm then _ else _) _) F H S D := q
                  rw [if_neg hc] at q
                  exact q.elim
              · cases h3
            | _ => simp [isE] at h3
          | [], h2 => simp [lcSet] at h2
          | _ :: _ :: _, h2 => simp [lcSet] at h2
        | _ => simp [lcSet] at h2
    · cases h
  | .unp is e, cm, px, W, x, C, X, st, hW, h => by
    unfold isS at h
    split at h
    · rename_i ts k p a q
      simp only [Bool.and_eq_true] at h
      obtain ⟨⟨⟨h1, h2⟩, h3⟩, h4⟩ := h
      obtain ⟨f1, f2, f3⟩ := tg_facts (x := x) (X := X) (t := .tp is) (e := .Tuple ts k p) (pos := q) h1 h2 h3
      exact st_asg (t := .tp is) (snd_E e hW.wd h4) (den_tg hW.wd.wn hW.wd.pxc hW.wd.calm (.tp is) h1) f1 f2 f3
    · cases h
  | .setix i k e, cm, px, W, x, C, X, st, hW, h => by
    unfold isS at h
    split at h
    · simp only [Bool.and_eq_true] at h
      obtain ⟨⟨⟨⟨h1, h2⟩, h3⟩, h4⟩, h5⟩ := h
      exact st_setix (snd_E e hW.wd h5) (nm_of hW.wd h1) (snd_E k hW.wd h4) h3 h2
    · cases h
  | .app i e, cm, px, W, x, C, X, st, hW, h => by
    unfold isS at h
    split at h
    · simp only [Bool.and_eq_true, decide_eq_true_eq] at h
      obtain ⟨⟨⟨⟨rfl, h1⟩, h2⟩, h3⟩, h4⟩ := h
      exact st_app (snd_E e hW.wd h4) (nm_of hW.wd h1) h2 rfl h3
    · cases h
  | .aug _ _ _, cm, px, W, x, C, X, st, hW, h => by simp [isS] at h
  | .ret e, cm, px, W, x, C, X, st, hW, h => by
    unfold isS at h
    split at h
    · exact st_ret (snd_E e hW.wd h)
    · cases h
  | .retN, cm, px, W, x, C, X, st, hW, h => by
    unfold isS at h
    split at h
    · exact st_retN
    · cases h
  | .ife c a b, cm, px, W, x, C, X, st, hW, h => by
    unfold isS at h
    split at h
    · simp only [Bool.and_eq_true] at h
      exact st_if (snd_T c hW.wd h.1.1) (snd_Ss a hW h.1.2) (snd_Ss b hW h.2)
    · cases h
  | .forS t src body, cm, px, W, x, C, X, st, hW, h => by
    unfold isS at h
    split at h
    · rename_i tg it l q
      simp only [Bool.and_eq_true] at h
      obtain ⟨⟨⟨h1, h2⟩, h3⟩, h4⟩ := h
      by_cases hc : C.calm = true
      · refine PS_imp (st_for (C := C) (t := t) hW.po (hW.wd.calm hc) (snd_I src (tg := tg) hW.wd h3) (den_tg hW.wd.wn hW.wd.pxc hW.wd.calm t h2) (snd_Ss body hW h4) h1) fun Dn σ H ⟨F, S, v, g, sr, q⟩ => ⟨F, S, v, g, sr, ?_⟩
        have q : RSQ X.K cm px W (if C.calm then _ else _) F H S Dn := q
        rw [if_pos hc] at q
        exact q
      · refine ⟨fun pins st σ H D I ⟨F, S, v, g, sr, q⟩ => ?_⟩
        have q : RSQ X.K cm px W (if C.calm then _ else _) F H S D := q
        rw [if_neg hc] at q
        exact q.elim
    · cases h
  | .whl c body, cm, px, W, x, C, X, st, hW, h => by
    unfold isS at h
    split at h
    · simp only [Bool.and_eq_true] at h
      exact st_while hW.po (snd_T c hW.wd h.1) (snd_Ss body hW h.2) C.W
    · cases h
  | .brk, cm, px, W, x, C, X, st, hW, h => by
    unfold isS at h
    split at h
    · exact st_break
    · cases h
  | .cont, cm, px, W, x, C, X, st, hW, h => by
    unfold isS at h
    split at h
    · exact st_cont
    · cases h
  | .pass, cm, px, W, x, C, X, st, hW, h => by
    unfold isS at h
    split at h
    · exact st_pass
    · cases h
  | .raise c es, cm, px, W, x, C, X, st, hW, h => by
    unfold isS at h
    split at h
    · simp only [Bool.and_eq_true, decide_eq_true_eq] at h
      exact st_raise hW h.1.1 h.1.2 (snd_A es hW.wd h.2) (isEs_all h.2)
    · cases h
  | .tryS body c i suite, cm, px, W, x, C, X, st, hW, h => by
    unfold isS at h
    split at h
    · simp only [Bool.and_eq_true, decide_eq_true_eq] at h
      obtain ⟨⟨⟨⟨⟨h1, h2⟩, h3⟩, h4⟩, h5⟩, h6⟩ := h
      exact st_try (bev := fun C => exSs C body) (sev := fun C => exSs C suite) hW h1 h2 h3 h4 (fun {W' X'} _ hW' => snd_Ss body hW' h5) (fun {px' C' X'} _ hW' => snd_Ss suite hW' h6)
    · cases h
theorem snd_Ss : ∀ (t : Ss) {cm : Nat → Addr} {px : Px} {W : WX} {x : Sx} {C : PI.Ctx} {X : Cx} {l : List Stmt}, Ws cm px W x C X → isSs x t l = true → PSs X l (tSt X.K cm px W (exSs C t))
  | .nil, cm, px, W, x, C, X, l, hW, h => by
    simp only [isSs, List.isEmpty_iff] at h
    subst h
    exact st_nil
  | .cons s r, cm, px, W, x, C, X, l, hW, h => by
    unfold isSs at h
    split at h
    · simp only [Bool.and_eq_true] at h
      exact st_cons (snd_S s hW h.1) (snd_Ss r hW h.2)
    · cases h
end
end PI
/-! PI, part z: a whole program. -/
namespace PI
open PySem PySem.Spec PyProof.Rows L2
structure Def where
  name : Str
  np : Nat
  N : List Str
  bv : List Bool
  body : Ss
structure Prg where
  defs : List Def
  sub : Nat → Nat → Bool
  xf : Nat → List Str
  rcs : List Nat
  gv : Nat → D
  W : Nat
def Prg.bvs (p : Prg) (f : Nat) : List Bool := match p.defs[f]? with
  | some d => d.bv
  | none => []
def Prg.ctx (p : Prg) (cf : Bool → Nat → List D → Cr) (calm : Bool) (d : Def) : Ctx :=
  { cf := cf, bv := p.bvs, gv := p.gv, sub := p.sub, xf := p.xf, rcs := p.rcs, cur := none, fix := fun i => decide (i < d.np) && !(d.bv.getD i false), calm := calm, W := p.W }
/-- a def's end: the value, the parameters -/
def endC (n : Nat) : RS → Cr
  | .nx v => if n ≤ v.length then .ret .non (v.take n) else .err
  | .ret d v => if n ≤ v.length then .ret d (v.take n) else .err
  | .exc c fs v => if n ≤ v.length then .exc c fs (v.take n) else .err
  | _ => .err
def env0 (d : Def) (ds : List D) : Env := ds.map some ++ List.replicate (d.N.length - ds.length) none
def Prg.call (p : Prg) : Nat → Bool → Nat → List D → Cr
  | 0, _, _, _ => .err
  | n + 1, calm, f, ds => match p.defs[f]? with
    | none => .err
    | some d => if ds.length = d.np then endC d.np (exSs (p.ctx (p.call n) calm d) d.body (env0 d ds)) else .err
/-- what the written part says of a def -/
structure DefAt (K : PySem.W.Frag) (mg : Str → Option Value) (g : Glo) (d : Def) (a : Addr) (fd : FuncData) (ps : List Str) : Prop where
  mg : mg d.name = some (.ref a)
  kp : PySem.W.keepIn K (.ref a) = true
  bd : Binds K fd ps []
  np : ps.length = d.np
  ex : ∃ (name qual : Str) (params : Arguments) (body : List Stmt) (scope : Scope) (dV kV doc pm cdv ct oc : Value) (an od : Option Addr) (osl : Array (Option Value)), fd = PySem.W.fnOf name qual params body scope dV kV doc pm an cdv ct ∧
    K.lookup a = some ⟨oc, od, .func fd, osl⟩ ∧ PySem.W.codeIn K cdv qual = true ∧ FnScope d.N ps scope ∧ isSs ⟨d.N, scope, g⟩ d.body body = true
structure IniAt (P : Program) (w : World) (K : PySem.W.Frag) (mg : Str → Option Value) (cm : Nat → Addr) (p : Prg) (c : Nat) : Prop where
  oex : OexC K (cm c)
  few : (p.xf c).length ≤ 100
  ini : ∃ fI fd ps, PySem.W.findIn K (.ref (cm c)) "__init__" = some (some (.ref fI)) ∧ PySem.W.typeIn K (.ref fI) = some (.type "function") ∧ Binds K fd ps [] ∧ ∀ base, FnP P w K mg base 1 fI fd ps (spI (p.xf c) (cm c))
structure PgOk (P : Program) (w : World) (K : PySem.W.Frag) (mg : Str → Option Value) (cm : Nat → Addr) (g : Glo) (p : Prg) : Prop where
  defs : ∀ d ∈ p.defs, ∃ a fd ps, DefAt K mg g d a fd ps
  fs : ∀ s f, g.fs.lookup s = some f → ∃ d, p.defs[f]? = some d ∧ d.name = s
  blt : ∀ s ∈ bltNames, mg s = none
  gcd : g.gc = true → mg "gcd" = some (.builtin "math.gcd")
  cls : ∀ s c, g.cs.lookup s = some c → mg s = some (.ref (cm c))
  xcl : ∀ c ∈ p.rcs, ∀ cf b d, XCls K cm (p.ctx cf b d) (g.cs.map (·.2)) c
  ini : ∀ c ∈ p.rcs, IniAt P w K mg cm p c
  con : ∀ s k, g.ks.lookup s = some k → ∃ v u, mg s = some u ∧ RelV v u ∧ ∀ F H, Rep K cm F H (p.gv k) v no
section
variable {P : Program} {w : World} {K : PySem.W.Frag} {mg : Str → Option Value} {base : Heap} {cm : Nat → Addr} {g : Glo} {p : Prg}
theorem FnP.mono {j k : Nat} {f : Addr} {fd : FuncData} {ps : List Str} {sp : Bool → Sp} (h : FnP P w K mg base j f fd ps sp) (hk : j ≤ k) : FnP P w K mg base k f fd ps sp :=
  ⟨h.len, fun hot A outer s H args us vs Q E hr => h.run hot A outer s H args us vs Q E (hr.mono hk)⟩
theorem maskB_at : ∀ {b : List Bool} {o : Env} {i : Nat} {d : D}, (maskB b o)[i]? = some (some d) → b.getD i false = false ∧ o[i]? = some (some d)
  | b, [], i, d, h => by simp [maskB] at h
  | b, x :: o, 0, d, h => by
    simp only [maskB, List.getElem?_cons_zero, Option.some.injEq] at h
    split at h
    · cases h
    · rename_i z
      refine ⟨?_, by simp [h]⟩
      cases b with
      | nil => rfl
      | cons y r => simpa using z
  | b, x :: o, i + 1, d, h => by
    simp only [maskB, List.getElem?_cons_succ] at h
    obtain ⟨h1, h2⟩ := maskB_at h
    refine ⟨?_, by simpa using h2⟩
    cases b with
    | nil => rfl
    | cons y r => simpa using h1
theorem maskB_len : ∀ {b : List Bool} {o : Env}, (maskB b o).length = o.length
  | b, [] => rfl
  | b, x :: o => by simp [maskB, maskB_len]
theorem end_srs {F H : Hp} {S : Set'} {v : Env} {σ : L2.St} {px : Px} {vs : List V} {n : Nat} {bv : List Bool} (hv : vs.length = n) (hl : n ≤ v.length) (hf : ∀ i x, i < n → bv.getD i false = false → vs[i]? = some x → px.fx i = some x)
    (h : SRs K cm px F H v σ S) : SRs K cm px0 F H (maskB bv (v.take n)) (vs.map some) S := by
  obtain ⟨h0, hp, T, h1, h2, h3⟩ := h
  refine ⟨?_, PxOk.none, T, h1, h2, fun i d q => ?_⟩
  · rw [maskB_len, List.length_take, List.length_map]
    omega
  · obtain ⟨q1, q2⟩ := maskB_at q
    have hi : i < n := by
      have := (List.getElem?_eq_some_iff.mp q2).1
      rw [List.length_take] at this
      omega
    rw [List.getElem?_take_of_lt hi] at q2
    obtain ⟨x, e1, r⟩ := h3 i d q2
    have hx : vs[i]? = some (vs[i]'(by omega)) := by simp
    have e2 := hp.2 i _ (hf i _ hi q1 hx)
    rw [e1] at e2
    cases e2
    exact ⟨_, by rw [List.getElem?_map, hx]; rfl, r⟩
theorem start_srs {F H : Hp} {S : Set'} {ds : List D} {vs : List V} {N : List Str} {px : Px} (h : RepL K cm F H ds vs S) (hp : PxOk K cm px F (L2.start N vs)) : SRs K cm px F H (ds.map some ++ List.replicate (N.length - ds.length) none) (L2.start N vs) S := by
  have base : ∀ {ds : List D} {vs : List V} {S : Set'} (m : Nat), RepL K cm F H ds vs S → SRs K cm px0 F H (ds.map some ++ List.replicate m none) (vs.map some ++ List.replicate m none) S := by
    intro ds
    induction ds with
    | nil =>
      intro vs S m h
      simp only [RepL] at h
      subst h
      refine ⟨by simp, PxOk.none, fun _ => no, fun _ => no_sub _, fun _ _ _ => no_dj _, fun i d q => ?_⟩
      simp only [List.map_nil, List.nil_append, List.getElem?_replicate] at q
      split at q <;> cases q
    | cons d ds ih =>
      intro vs S m h
      simp only [RepL] at h
      obtain ⟨x, r, S1, S2, rfl, s1, s2, j, p1, p2⟩ := h
      obtain ⟨q1, q2, T, t1, t2, t3⟩ := ih m p2
      refine ⟨by simpa using q1, PxOk.none, fun k => match k with
        | 0 => S1
        | k + 1 => T k, fun k => ?_, fun k l n => ?_, fun k d' q => ?_⟩
      · cases k with
        | zero => exact s1
        | succ k => exact (t1 k).trans s2
      · cases k with
        | zero =>
          cases l with
          | zero => exact absurd rfl n
          | succ l => exact fun a y z => j a y (t1 l a z)
        | succ k =>
          cases l with
          | zero => exact fun a y z => j a z (t1 k a y)
          | succ l => exact t2 k l fun e => n (by rw [e])
      · cases k with
        | zero =>
          simp only [List.map_cons, List.cons_append, List.getElem?_cons_zero, Option.some.injEq] at q
          subst q
          exact ⟨x, rfl, p1⟩
        | succ k =>
          simp only [List.map_cons, List.cons_append, List.getElem?_cons_succ] at q
          exact t3 k d' q
  have hl := h.len
  have q := base (N.length - ds.length) h
  unfold L2.start at hp ⊢
  rw [hl] at hp ⊢
  exact ⟨q.1, hp, q.2.2⟩
/-- THE THEOREM: every def keeps what the interpreter says -/
theorem all_fn (O : PgOk P w K mg cm g p) (hdig : base.NoDigits) : ∀ (n : Nat) (f : Nat) (d : Def) (a : Addr) (fd : FuncData) (ps : List Str) (C : PI.Ctx), p.defs[f]? = some d → DefAt K mg g d a fd ps → C.cf = p.call n → C.bv = p.bvs → FnP P w K mg base (n + 3) a fd ps (spP K cm C f)
  | 0, f, d, a, fd, ps, C, hf, hD, hcf, hbv => by
    refine ⟨fun c vs H Q E h => ?_, fun hot A outer s H args us vs Q E _ _ _ _ _ h => ?_⟩ <;>
    · obtain ⟨F, S, ds, _, _, q⟩ := h
      rw [hcf] at q
      exact False.elim q
  | n + 1, f, d, a, fd, ps, C, hf, hD, hcf, hbv => by
    obtain ⟨name, qual, params, body, scope, dV, kV, doc, pm, cdv, ct, oc, an, od, osl, rfl, lk, hcd, hS, hB⟩ := hD.ex
    have hN : ps.length ≤ d.N.length := by
      have := congrArg List.length hS.pre
      rw [List.length_take] at this
      omega
    have hlen : ∀ c vs H Q E, spP K cm C f c vs H Q E → vs.length = ps.length := fun c vs H Q E ⟨F, S, ds, _, rl, q⟩ => by
      rw [rl.len, hD.np]
      rw [hcf] at q
      by_cases hz : ds.length = d.np
      · exact hz
      · simp only [CQ, Prg.call, hf, hz, if_false] at q
    refine fnP_of (k := n + 3) lk hcd hS hlen fun hot A outer s H vs Q E hr hpl hsp => ?_
    have hl := hlen _ _ _ _ _ hsp
    obtain ⟨F, S, ds, gd, rl, q⟩ := hsp
    have hds : ds.length = d.np := by rw [← rl.len, hl, hD.np]
    rw [hcf, hbv] at q
    have hbvf : p.bvs f = d.bv := by simp only [Prg.bvs, hf]
    rw [hbvf] at q
    simp only [CQ, Prg.call, hf, hds, if_true] at q
    let C' := p.ctx (p.call n) hot.isNone d
    let px : Px := ⟨none, fun i => if C'.fix i then vs[i]? else none⟩
    have hfx : ∀ i x, i < d.np → d.bv.getD i false = false → vs[i]? = some x → px.fx i = some x := fun i x h1 h2 h3 => by
      show (if (decide (i < d.np) && !(d.bv.getD i false)) = true then vs[i]? else none) = some x
      rw [h2, decide_eq_true h1]
      exact h3
    have hX : ∀ {Y : Prop}, (∀ X : Cx, X = cxP P w K mg base d.N qual scope a cdv A outer s H E hot → Y) → Y := fun k => k _ rfl
    have hWs : Ws cm px (fun cls dd _ H => E cls dd H) ⟨d.N, scope, g⟩ C' (cxP P w K mg base d.N qual scope a cdv A outer s H E hot) := by
      have key : ∀ X : Cx, X = cxP P w K mg base d.N qual scope a cdv A outer s H E hot → X.prog = P → X.w = w → X.K = K → X.mg = mg → X.base = base → X.N = d.N → X.env = envOfC qual scope s.heap.objs.size a cdv → X.fn = (fun _ => true) → X.A = A.deeper (envOfC qual scope s.heap.objs.size a cdv) →
          X.stack = X.env :: X.outer → X.ex = [] → HotIs X C'.calm → L2N.Takes X (fun cls dd _ H => E cls dd H) → PassesOwn (model X.prog X.w) X.A X.env X.xe → Ws cm px (fun cls dd _ H => E cls dd H) ⟨d.N, scope, g⟩ C' X := by
        intro X _ e1 e2 e3 e4 e5 e6 e7 e8 e9 e10 e11 e12 e13 e14
        have esc : X.env.scope = scope := by rw [e7]; rfl
        have room : RoomP (n + 3) X.A := by rw [e9]; exact hr
        refine { wd := ?_, po := e14, hs := e10, hf := by rw [e7]; rfl, kd := by rw [esc]; exact hS.kind, sc := esc, rs := fun _ => ⟨n + 2, room, fun c hc => ?_⟩, xcl := fun c hc => by rw [e3]; exact O.xcl c hc _ _ _ }
        · refine { names := e6, nd := (by rw [e6]; exact hS.nd), vis := fun y h => (by rw [esc]; exact vis_of h), fre := fun y h => (by rw [esc]; exact h), sto := fun y h => ⟨?_, .inl (by rw [e8])⟩, glb := fun y h => ?_, hot := e12, room := ⟨n + 3, room, fun y f' hf' => ?_⟩, tk := e13, dig := (by rw [e5]; exact hdig), blt := fun y h => (by rw [e4]; exact O.blt y h), gcd := fun h => (by rw [e4]; exact O.gcd h), cls := fun y c h => (by rw [e4]; exact O.cls y c h), cur := fun j c fs h => (by cases h), cur0 := fun _ => rfl, pxc := fun i h => ⟨fun q z => (by cases z), ?_⟩, con := fun y k h => (by rw [e4, e3]; exact O.con y k h) }
          · rw [esc]
            have h : stoB (scope.names.lookup y) = true := h
            unfold L2.Loc
            cases e : scope.names.lookup y with
            | none => rw [e] at h; simp [stoB] at h
            | some k => rw [e] at h; cases k <;> simp [stoB] at h ⊢
          · show X.env.kindOf y = some .globalImplicit
            unfold PySem.Env.kindOf
            rw [esc]
            exact h
          · obtain ⟨d', hd', hn'⟩ := O.fs y f' hf'
            obtain ⟨a', fd', ps', hD'⟩ := O.defs d' (List.mem_of_getElem? hd')
            refine ⟨a', fd', ps', by rw [e4, ← hn']; exact hD'.mg, by rw [e3]; exact hD'.kp, by rw [e3]; exact hD'.bd, ?_⟩
            rw [e1, e2, e3, e4, e5]
            exact all_fn O hdig n f' d' a' fd' ps' C' hd' hD' rfl rfl
          · show (if C'.fix i = true then vs[i]? else none) = none
            have h : (C'.fix i || false) = false := h
            rw [Bool.or_false] at h
            rw [h]
            rfl
        · obtain ⟨o1, o2, fI, fdI, psI, i1, i2, i3, i4⟩ := O.ini c hc
          refine ⟨by rw [e3]; exact o1, o2, fI, fdI, psI, by rw [e3]; exact i1, by rw [e3]; exact i2, by rw [e3]; exact i3, ?_⟩
          rw [e1, e2, e3, e4, e5]
          exact (i4 base).mono (by omega)
      cases hot with
      | none => exact key _ rfl rfl rfl rfl rfl rfl rfl rfl rfl rfl rfl rfl rfl (L2N.takes_of rfl rfl rfl rfl) (passes_of rfl)
      | some pp => exact key _ rfl rfl rfl rfl rfl rfl rfl rfl rfl rfl rfl rfl ⟨pp, hpl.1, List.mem_singleton.mpr rfl⟩ (L2N.takes_of rfl rfl rfl rfl) (passes_of rfl)
    have hK : (cxP P w K mg base d.N qual scope a cdv A outer s H E hot).K = K := by cases hot <;> rfl
    have h := snd_Ss d.body hWs hB
    rw [hK] at h
    refine ⟨_, h, F, S, env0 d ds, gd, ?_, ?_⟩
    · refine start_srs rl ⟨fun q z => (by cases z), fun i x z => ?_⟩
      have z : (if C'.fix i = true then vs[i]? else none) = some x := z
      split at z
      · unfold L2.start
        have hi := (List.getElem?_eq_some_iff.mp z).1
        rw [List.getElem?_append_left (by simpa using hi), List.getElem?_map, z]
        rfl
      · cases z
    · have q : CQ K cm d.bv (endC d.np (exSs C' d.body (env0 d ds))) F H S vs Q E := q
      have hvn : vs.length = d.np := by rw [hl, hD.np]
      cases e : exSs C' d.body (env0 d ds) with
      | nx v =>
        rw [e] at q
        simp only [endC] at q
        split at q
        · rename_i hz
          intro σ' F' H' S' t sr
          exact q .non F' H' S' no (t.sub (un_sub (Sub.refl _) (no_sub _))) (dj_no _) (end_srs hvn hz hfx sr) (by simp only [Rep])
        · exact False.elim q
      | ret dd v =>
        rw [e] at q
        simp only [endC] at q
        split at q
        · rename_i hz
          intro x σ' F' H' S1 S2 t j sr r
          exact q x F' H' S1 S2 t j (end_srs hvn hz hfx sr) r
        · exact False.elim q
      | exc c fs v =>
        rw [e] at q
        simp only [endC] at q
        split at q
        · rename_i hz
          intro σ' F' H' S1 dd t sr xr
          exact q F' H' S1 dd t (end_srs hvn hz hfx sr) xr
        · exact False.elim q
      | brk v => rw [e] at q; exact False.elim q
      | cont v => rw [e] at q; exact False.elim q
      | err => rw [e] at q; exact False.elim q
end
end PI
/-! PI, the ends: the law's own call; an exception's __init__. -/
namespace PI
open PySem PySem.Spec PyProof.Rows L2
/-- the law's promise, behind the top -/
theorem law_callP {P : Program} {w : World} {K : PySem.W.Frag} {mg mb : Str → Option Value} {k : Nat} {fa a : Addr} {fd : FuncData} {x : Str} {sp : Bool → Sp} {s₁ : Shared} {vs : List Value} {ns : List Int}
    (KX : K.In s₁.heap) (hns : s₁.heap.Ns mainGlobals mg) (hb : s₁.heap.Ns builtinsNs mb) (hbb : ∀ x : Str, x ≠ "__name__" → mb x = bootBuiltins x) (hlim : s₁.heap.NoLimit) (hdg : s₁.heap.NoDigits) (hg : s₁.gens = #[])
    (ha : s₁.heap.get? a = some { cls := .type "list", data := .seq vs.toArray }) (hi : IntsAre vs ns) (hl : ns.length ≤ sizeLine) (hr : RoomP k callerA)
    (F : ∀ base : Heap, K.In base → base.Ns mainGlobals mg → base.NoDigits → FnP P w K mg base k fa fd [x] sp) (hbind : ∀ (s : Shared) (u : Value), BindsTo s fd ⟨[u], []⟩ [(x, u)])
    (hsp : ∀ H : Hp, Only H → SqL K H a (ns.map V.int) → sp true [.ref a] H (fun v _ => v = .bl true) fun _ _ _ => False) :
    codeAny (model P w) callerA (.call (.ref fa) ⟨[.ref a], []⟩) (fun r s' => r = .ok (.ret (.bool true)) ∧ OldK s₁.heap s'.heap ∧ s'.os = s₁.os ∧ AllBare s'.gens) s₁ := by
  have ivs := vals_ints hi
  have lens := hi.length
  have main : ∀ H : Hp, Only H → SqL K H a (ns.map V.int) → HOk P w H s₁.heap → (∀ b, H b ≠ none → b = a) → (H a ≠ none → K.lookup a = none) →
      codeAny (model P w) callerA (.call (.ref fa) ⟨[.ref a], []⟩) (fun r s' => r = .ok (.ret (.bool true)) ∧ OldK s₁.heap s'.heap ∧ s'.os = s₁.os ∧ AllBare s'.gens) s₁ := by
    intro H only sq hok alone nk
    have below : ∀ {b : Addr} {o : Obj}, s₁.heap.get? b = some o → H b = none → (hidT s₁.heap H).get? b = some o := fun e n => hidT_get e n
    have dicts : ∀ {b : Addr} {o : Obj} {es : Array DictEntry} {ep : Nat}, s₁.heap.get? b = some o → o.data = .dict es ep → H b = none := fun {b o es ep} e d => by
      cases q : H b with
      | none => rfl
      | some u =>
        obtain rfl : b = a := alone b (by rw [q]; simp)
        rw [ha] at e
        cases e
        cases (show Data.seq vs.toArray _ = Data.dict es ep from d)
    have nss : ∀ {b : Addr} {m : Str → Option Value}, s₁.heap.Ns b m → (hidT s₁.heap H).Ns b m := fun {b m} ⟨o, es, ep, e, d, r⟩ => ⟨o, es, ep, below e (dicts e d), d, r⟩
    have kin : K.In (hidT s₁.heap H) := fun b o e => below (KX b o e) (by
      cases q : H b with
      | none => rfl
      | some u =>
        obtain rfl : b = a := alone b (by rw [q]; simp)
        rw [nk (by rw [q]; simp)] at e
        cases e)
    have dig : (hidT s₁.heap H).NoDigits := let ⟨mc, z1, z2⟩ := hdg; ⟨mc, nss z1, z2⟩
    have mod : Mod K mg (hidT s₁.heap H) := ⟨kin, nss hns, ⟨mb, nss hb, hbb⟩, let ⟨mc, z1, z2⟩ := hlim; ⟨mc, nss z1, z2⟩⟩
    have env : Env0 P w K mg (hidT s₁.heap H) callerA [] s₁ H := ⟨rfl, mod, fun b o e => of_hidT e, Nat.le_of_eq (hidT_size _ _), trivial, fun b hb => absurd (show b ∈ ([] : List Addr) from hb) (by simp), hok, .of_eq hg⟩
    refine codeAny_mono ((F _ kin (nss hns) dig).run none callerA [] s₁ H ⟨[.ref a], []⟩ [.ref a] [.ref a] _ _ hr rfl env (hbind s₁ (.ref a)) (.cons rfl .nil) (hsp H only sq)) fun r s' h => ?_
    match r, h with
    | .error e, h =>
      obtain ⟨_, _, _, _, _, _, _, _, _, _, _, _, z⟩ := h
      exact z.elim
    | .ok .next, h => exact False.elim h
    | .ok .brk, h => exact False.elim h
    | .ok .cont, h => exact False.elim h
    | .ok (.ret u), h =>
      obtain ⟨v, H', os, bare, un', hok', r', q⟩ := h
      obtain rfl : v = .bl true := q
      obtain rfl : u = Value.bool true := r'
      refine ⟨rfl, OldK.of_keep fun b o e => ?_, os, bare⟩
      cases q : H b with
      | none => exact un'.keep b o e q (fun z => absurd (show b ∈ ([] : List Addr) from z) (by simp)) (by simp)
      | some u =>
        rcases only b with z | ⟨ob, xs, z⟩
        · rw [q] at z
          cases z
        · obtain ⟨e1, _⟩ := hok b _ z
          obtain ⟨e2, _⟩ := hok' b _ (un'.frzs b ob _ z)
          rw [e] at e1
          cases e1
          exact e2
  cases hk : K.lookup a with
  | some o =>
    have e := KX a o hk
    rw [ha] at e
    cases e
    refine main (fun _ => none) (fun _ => Or.inl rfl) (Or.inr ⟨_, vs.toArray, _, hk, rfl, rfl, rfl, (by rw [List.size_toArray, lens]; exact hl), (by simpa using ivs)⟩) (fun b u z => (by cases (show (none : Option HO) = some u from z))) (fun b z => absurd rfl z) fun z => absurd rfl z
  | none =>
    refine main (fun b => if b = a then some (.frz { cls := .type "list", data := .seq vs.toArray } (.lst (ns.map V.int))) else none) (fun b => ?_) (Or.inl (Or.inr ⟨{ cls := .type "list", data := .seq vs.toArray }, if_pos rfl⟩)) (fun b u z => ?_) (fun b z => ?_) fun _ => hk
    · by_cases hb : b = a
      · exact Or.inr ⟨_, _, if_pos hb⟩
      · exact Or.inl (if_neg hb)
    · by_cases hb : b = a
      · cases (if_pos hb).symm.trans z
        subst hb
        exact ⟨ha, by rw [List.length_map]; exact hl, vs, _, ivs, ha⟩
      · cases (if_neg hb).symm.trans z
    · by_cases hb : b = a
      · exact hb
      · exact absurd (if_neg hb) z
/-- what the head of a law leaves, from the interpreter's word -/
theorem walk_ofP {l : PySem.W.OpenLaw} {n k : Nat} {q : Program} {loose : List Str} {XP : (Str → Option Value) → Heap → Prop} {YP : World → Heap → Prop} {d : DefRec} {K : Params → PySem.W.Frag} {x : Str} {C : PI.Ctx} {f : Nat}
    (hn : l.most = some n) (hn2 : n ≤ sizeLine) (hdf : d.params.defaults = []) (hr : RoomP k callerA)
    (hY : ∀ (w : World) (h : Heap), YP w h → (K w.params).In h)
    (F : ∀ (w : World) (mg : Str → Option Value) (fa : Addr) (h : Heap), (K w.params).In h → h.Ns mainGlobals mg → mg d.name = some (.ref fa) →
      ∃ (fd : FuncData) (cm : Nat → Addr), (∀ (s : Shared) (u : Value), BindsTo s fd ⟨[u], []⟩ [(x, u)]) ∧
        ∀ base : Heap, (K w.params).In base → base.Ns mainGlobals mg → base.NoDigits → FnP l.prog w (K w.params) mg base k fa fd [x] (spP (K w.params) cm C f))
    (hlaw : ∀ ns : List Int, ns.length ≤ n → ∃ o, C.cf true f [.lst .wr (ns.map D.int)] = .ret (.bl true) o) :
    PySem.W.WalkO q loose XP YP l.row.toRowW d [] (fun f vs => PySem.call f vs) := by
  refine Att.attach_call hn hdf fun w s₀ s₁ mg mb fa o pm cd doc a vs ns G Y ho hd hcd hmg hobj hints hlen hg => ?_
  have KX := hY w _ Y
  obtain ⟨fd, cm, hb, hF⟩ := F w mg fa _ KX G.T.g hmg
  refine law_callP KX G.T.g G.T.b G.T.builtins G.T.nolimit G.T.nodigits hg hobj hints (Nat.le_trans hlen hn2) hr hF hb fun H only sq => ?_
  obtain ⟨o, ho⟩ := hlaw ns hlen
  refine ⟨H, no, [.lst .wr (ns.map D.int)], Gd.no (Ex.refl H), ?_, ?_⟩
  · have ri : ∀ ns : List Int, RepL (K w.params) cm H H (ns.map D.int) (ns.map V.int) no := by
      intro ns
      induction ns with
      | nil => simp [RepL]
      | cons i ns ih =>
        simp only [List.map_cons, RepL]
        exact ⟨_, _, no, no, rfl, no_sub _, no_sub _, no_dj _, (by simp only [Rep]), ih⟩
    simp only [RepL]
    exact ⟨_, _, no, no, rfl, no_sub _, no_sub _, no_dj _, (by simp only [Rep]; exact ⟨a, _, rfl, sq, ri ns⟩), rfl⟩
  · rw [ho]
    intro xv F' H' S1 S2 _ _ _ r
    simpa only [Rep] using r
end PI
/-! PI: the promises of the exceptions' own __init__. -/
namespace PI
open PySem PySem.Spec PyProof.Rows L2
theorem kit_ref {K : PySem.W.Frag} {D C : Addr} {b : Bool} (h1 : PySem.W.hasDictIn K C = true) (h2 : PySem.W.typeIn K (.ref C) = some (.type "type")) (h3 : PySem.W.subIn K (.ref D) (.ref C) = some b) (h4 : PySem.W.subIn K (.ref D) (.ref D) = some true) :
    PySem.W.kitOne K (.ref D) (.ref C) = some b := by
  unfold PySem.W.kitOne
  split
  · rename_i e
    obtain rfl : D = C := Value.ref.inj (beq_iff_eq.mp e)
    rw [h4] at h3
    exact h3
  · obtain ⟨cd, hc, _⟩ := PySem.W.any_some h1
    have e2 : ((PySem.W.clsIn K C).isSome && PySem.W.typeIn K (.ref C) == some (.type "type")) = true := by rw [hc, h2] <;> rfl
    show (if ((PySem.W.clsIn K C).isSome && PySem.W.typeIn K (.ref C) == some (.type "type")) = true then PySem.W.subIn K (.ref D) (.ref C) else none) = some b
    rw [if_pos e2]
    exact h3
theorem kit_ve {K : PySem.W.Frag} {D : Addr} (h : PySem.W.subIn K (.ref D) (.type "ValueError") = some true) : PySem.W.kitOne K (.ref D) (.type "ValueError") = some true := by
  unfold PySem.W.kitOne
  split
  · rfl
  · show (if PySem.W.kitMeta "ValueError" = true then PySem.W.subIn K (.ref D) (.type "ValueError") else none) = some true
    rw [if_pos (by decide +kernel)]
    exact h
section
variable {P : Program} {w : World} {K : PySem.W.Frag} {mg : Str → Option Value} {ps : List Str} {fI C : Addr} {name qual : Str} {params : Arguments} {body : List Stmt} {scope : Scope} {dV kV doc pm cdv ct oc : Value} {an od : Option Addr} {osl : Array (Option Value)}
theorem pe_slot {X : Cx} {i : Nat} {s : Str} {p : Pos} (hN : X.N[i]? = some s) (hl : X.env.scope.names.lookup s = some .local) (h1 : (s == ("__debug__" : Str)) = false) (h2 : (s == ("__classdict__" : Str)) = false) : PE X (.Name s p) (tVar i) := pe_var hN (.inl hl) h1 h2
theorem ini1 {f y : Str} {q1 q2 q3 q4 : Pos} (lk : K.lookup fI = some ⟨oc, od, .func (PySem.W.fnOf name qual params [.Assign [.Attribute (.Name "self" q1) f q2] (.Name y q3) q4] scope dV kV doc pm an cdv ct), osl⟩) (hcd : PySem.W.codeIn K cdv qual = true) (S : FnScope ["self", y] ["self", y] scope)
    (l0 : scope.names.lookup ("self" : Str) = some .local) (l1 : scope.names.lookup y = some .local) (d1 : (y == ("__debug__" : Str)) = false) (d2 : (y == ("__classdict__" : Str)) = false) (T : OexC K C) (hno : PySem.W.findIn K (.ref C) f = some none) (base : Heap) :
    FnP P w K mg base 1 fI (PySem.W.fnOf name qual params [.Assign [.Attribute (.Name "self" q1) f q2] (.Name y q3) q4] scope dV kV doc pm an cdv ct) ["self", y] (spI [f] C) := by
  refine fnP_of (k := 0) lk hcd S (fun c vs H Q E ⟨a, ws, e, h, _⟩ => by rw [e]; simp at h ⊢; exact h) fun hot A outer s H vs Q E hr hp hsp => ?_
  obtain ⟨a, ws, rfl, hw, ha, k⟩ := hsp
  match ws, hw with
  | [v], _ =>
    have key : ∀ X : Cx, X.N = [("self" : Str), y] → X.env.scope = scope → PSs X [.Assign [.Attribute (.Name "self" q1) f q2] (.Name y q3) q4] (tOst X.K f (tVar 0) (tVar 1)) := fun X h1 h2 =>
      pss_one (ps_ost (pe_slot (by rw [h1]; rfl) (by rw [h2]; exact l0) rfl rfl) (pe_slot (by rw [h1]; rfl) (by rw [h2]; exact l1) d1 d2) (swaps_no rfl))
    have hX : PSs (cxP P w K mg base ["self", y] qual scope fI cdv A outer s H E hot) [.Assign [.Attribute (.Name "self" q1) f q2] (.Name y q3) q4] (tOst K f (tVar 0) (tVar 1)) := by
      cases hot with
      | none => exact key _ rfl rfl
      | some pp => exact key _ rfl rfl
    refine ⟨_, hX, v, rfl, .ref a, rfl, a, C, rfl, T, hno, .inl ⟨ha, fun dx n ne => ?_⟩⟩
    refine k dx _ n ne upd_same ?_ fun b hb hb' => ?_
    · rw [upd_ne ne, upd_same]
      rfl
    · rw [upd_ne hb, upd_ne hb']
theorem ini2 {f y f2 y2 : Str} {q1 q2 q3 q4 r1 r2 r3 r4 : Pos} (lk : K.lookup fI = some ⟨oc, od, .func (PySem.W.fnOf name qual params [.Assign [.Attribute (.Name "self" q1) f q2] (.Name y q3) q4, .Assign [.Attribute (.Name "self" r1) f2 r2] (.Name y2 r3) r4] scope dV kV doc pm an cdv ct), osl⟩) (hcd : PySem.W.codeIn K cdv qual = true)
    (S : FnScope ["self", y, y2] ["self", y, y2] scope) (l0 : scope.names.lookup ("self" : Str) = some .local) (l1 : scope.names.lookup y = some .local) (l2 : scope.names.lookup y2 = some .local) (d1 : (y == ("__debug__" : Str)) = false) (d2 : (y == ("__classdict__" : Str)) = false)
    (d3 : (y2 == ("__debug__" : Str)) = false) (d4 : (y2 == ("__classdict__" : Str)) = false) (T : OexC K C) (hno : PySem.W.findIn K (.ref C) f = some none) (hno2 : PySem.W.findIn K (.ref C) f2 = some none) (base : Heap) :
    FnP P w K mg base 1 fI (PySem.W.fnOf name qual params [.Assign [.Attribute (.Name "self" q1) f q2] (.Name y q3) q4, .Assign [.Attribute (.Name "self" r1) f2 r2] (.Name y2 r3) r4] scope dV kV doc pm an cdv ct) ["self", y, y2] (spI [f, f2] C) := by
  refine fnP_of (k := 0) lk hcd S (fun c vs H Q E ⟨a, ws, e, h, _⟩ => by rw [e]; simp at h ⊢; exact h) fun hot A outer s H vs Q E hr hp hsp => ?_
  obtain ⟨a, ws, rfl, hw, ha, k⟩ := hsp
  match ws, hw with
  | [v, v2], _ =>
    have key : ∀ X : Cx, X.N = [("self" : Str), y, y2] → X.env.scope = scope → PSs X [.Assign [.Attribute (.Name "self" q1) f q2] (.Name y q3) q4, .Assign [.Attribute (.Name "self" r1) f2 r2] (.Name y2 r3) r4] (tSeq (tOst X.K f (tVar 0) (tVar 1)) (tOst X.K f2 (tVar 0) (tVar 2))) := fun X h1 h2 =>
      pss_cons (ps_ost (pe_slot (by rw [h1]; rfl) (by rw [h2]; exact l0) rfl rfl) (pe_slot (by rw [h1]; rfl) (by rw [h2]; exact l1) d1 d2) (swaps_no rfl))
        (pss_one (ps_ost (pe_slot (by rw [h1]; rfl) (by rw [h2]; exact l0) rfl rfl) (pe_slot (by rw [h1]; rfl) (by rw [h2]; exact l2) d3 d4) (swaps_no rfl)))
    have hX : PSs (cxP P w K mg base ["self", y, y2] qual scope fI cdv A outer s H E hot) [.Assign [.Attribute (.Name "self" q1) f q2] (.Name y q3) q4, .Assign [.Attribute (.Name "self" r1) f2 r2] (.Name y2 r3) r4] (tSeq (tOst K f (tVar 0) (tVar 1)) (tOst K f2 (tVar 0) (tVar 2))) := by
      cases hot with
      | none => exact key _ rfl rfl
      | some pp => exact key _ rfl rfl
    refine ⟨_, hX, v, rfl, .ref a, rfl, a, C, rfl, T, hno, .inl ⟨ha, fun dx n ne => ⟨v2, rfl, .ref a, rfl, a, C, rfl, T, hno2, .inr ⟨dx, [(f, v)], upd_same, ?_, by simp, ?_⟩⟩⟩⟩
    · rw [upd_ne ne, upd_same]
    · refine k dx _ n ne ?_ ?_ fun b hb hb' => ?_
      · rw [upd_ne (Ne.symm ne), upd_same]
      · rw [upd_same]
        rfl
      · rw [upd_ne hb', upd_ne hb, upd_ne hb']
end
end PI
namespace K84
open PySem PySem.Spec PyProof.Rows L2 PI
def top (i : Nat) : Stmt := PySem.Challenge.pw_cutmakers_k84_ratio_words.main.body.getD i (.Pass ⟨0, 0, 0, 0⟩)
/-- parse_number -/
def b_parse_number : Ss := (.cons (.set 1 (.var 0))
 (.cons (.ife (.cmpT .Eq (.slc (.var 0) .none (.some (.int 1))) (.str "-")) (.cons (.set 1 (.slc (.var 0) (.some (.int 1)) .none))
 .nil) .nil)
 (.cons (.ife (.orT (.notT (.ev (.var 1))) (.oneT (.cmpT .Gt (.biv .len 1) (.int 800)))) (.cons (.ret .non)
 .nil) .nil)
 (.cons (.forS (.nm 2) (.ov (.var 1)) (.cons (.ife (.cmpT .NotIn (.var 2) (.str "0123456789")) (.cons (.ret .non)
 .nil) .nil)
 .nil))
 (.cons (.ife (.andT (.cmpT .Eq (.ixv 1 (.int 0)) (.str "0")) (.oneT (.cmpT .NotEq (.var 0) (.str "0")))) (.cons (.ret .non)
 .nil) .nil)
 (.cons (.ret (.biv .int 0))
 .nil))))))
def d_parse_number : Def := { name := "parse_number", np := 1, N := ["word", "digits", "sign"], bv := [false], body := b_parse_number }
/-- read_ratio -/
def b_read_ratio : Ss := (.cons (.unp [3, 4, 5] (.bm .partition (.var 0) (.cons (.str "/") .nil)))
 (.cons (.set 1 (.call 0 (.cons (.var 3) .nil)))
 (.cons (.ife (.cmpT .Is (.var 1) .non) (.cons (.ret .non)
 .nil) .nil)
 (.cons (.ife (.notT (.ev (.var 4))) (.cons (.ret (.tup (.cons (.var 1) (.cons (.int 1) .nil))))
 .nil) .nil)
 (.cons (.set 2 (.call 0 (.cons (.var 5) .nil)))
 (.cons (.ife (.orT (.cmpT .Is (.var 2) .non) (.orT (.cmpT .Lt (.var 2) (.int 2)) (.oneT (.cmpT .NotEq (.bi .gcd (.cons (.var 1) (.cons (.var 2) .nil))) (.int 1))))) (.cons (.ret .non)
 .nil) .nil)
 (.cons (.ret (.tup (.cons (.var 1) (.cons (.var 2) .nil))))
 .nil)))))))
def d_read_ratio : Def := { name := "read_ratio", np := 1, N := ["word", "number", "below", "top", "slash", "bottom"], bv := [false], body := b_read_ratio }
/-- parse_ratio -/
def b_parse_ratio : Ss := (.cons (.set 1 (.call 1 (.cons (.var 0) .nil)))
 (.cons (.ife (.cmpT .Is (.var 1) .non) (.cons (.raise 16 (.cons (.var 0) .nil))
 .nil) .nil)
 (.cons (.ret (.var 1))
 .nil)))
def d_parse_ratio : Def := { name := "parse_ratio", np := 1, N := ["word", "value"], bv := [false], body := b_parse_ratio }
/-- format_ratio -/
def b_format_ratio : Ss := (.cons (.ife (.cmpT .Eq (.ixv 0 (.int 1)) (.int 1)) (.cons (.ret (.bi .str (.cons (.ixv 0 (.int 0)) .nil)))
 .nil) .nil)
 (.cons (.ret (.fst (.ixv 0 (.int 0)) "/" (.ixv 0 (.int 1))))
 .nil))
def d_format_ratio : Def := { name := "format_ratio", np := 1, N := ["value"], bv := [false], body := b_format_ratio }
/-- _law_is -/
def b__law_is : Ss := (.cons (.ret (.cmp .Eq (.biv .repr 0) (.biv .repr 1)))
 .nil)
def d__law_is : Def := { name := "_law_is", np := 2, N := ["told", "due"], bv := [false, false], body := b__law_is }
/-- _law_whole -/
def b__law_whole : Ss := (.cons (.ret (.andE (.isi 0 .int) (.one (.notE (.isi 0 .bool)))))
 .nil)
def d__law_whole : Def := { name := "_law_whole", np := 1, N := ["value"], bv := [false], body := b__law_whole }
/-- _law_cell -/
def b__law_cell : Ss := (.cons (.ife (.cmpT .Lt (.var 1) (.biv .len 0)) (.cons (.ret (.ixv 0 (.var 1)))
 .nil) .nil)
 (.cons (.set 2 (.int 17))
 (.cons (.forS (.nm 3) (.ov (.var 0)) (.cons (.set 2 (.bin .Mod (.bi .int (.cons (.bin .Add (.bin .Mult (.var 2) (.int 31)) (.bin .Mod (.biv .int 3) (.int 1000003))) .nil)) (.int 1000003)))
 .nil))
 (.cons (.ret (.bin .Mod (.bi .int (.cons (.bin .Mult (.bin .Mult (.bin .Add (.var 2) (.int 7)) (.bin .Add (.var 1) (.int 3))) (.int 69621)) .nil)) (.int 2147483647)))
 .nil))))
def d__law_cell : Def := { name := "_law_cell", np := 2, N := ["script", "k", "seed", "cell"], bv := [false, false], body := b__law_cell }
/-- _law_digits -/
def b__law_digits : Ss := (.cons (.set 2 (.lst .nil))
 (.cons (.set 3 (.bin .Sub (.biv .int 0) (.bin .Pow (.int 10) (.int 18))))
 (.cons (.set 4 (.bin .Mod (.biv .int 0) (.int 2147483629)))
 (.cons (.forS (.nm 5) (.rng (.cons (.biv .len 1) .nil)) (.cons (.set 4 (.bin .Mod (.bi .int (.cons (.bin .Add (.bin .Add (.bin .Mult (.var 4) (.int 48271)) (.bin .Mult (.int 974711) (.var 5))) (.int 12345)) .nil)) (.int 2147483647)))
 (.cons (.ife (.cmpT .Gt (.var 3) (.int 0)) (.cons (.app 2 (.bin .Mod (.biv .int 3) (.ixv 1 (.var 5))))
 (.cons (.set 3 (.bin .FloorDiv (.var 3) (.ixv 1 (.var 5))))
 .nil)) (.cons (.app 2 (.bin .Mod (.bin .FloorDiv (.bin .Mod (.bi .int (.cons (.bin .Mult (.var 4) (.bin .Add (.bin .FloorDiv (.var 4) (.int 65537)) (.int 3))) .nil)) (.int 2147483629)) (.int 19)) (.ixv 1 (.var 5))))
 .nil))
 .nil)))
 (.cons (.ret (.var 2))
 .nil)))))
def d__law_digits : Def := { name := "_law_digits", np := 2, N := ["cell", "sizes", "row", "rest", "seed", "k"], bv := [false, false], body := b__law_digits }
/-- _law_gcd -/
def b__law_gcd : Ss := (.cons (.set 0 (.biv .abs 0))
 (.cons (.set 1 (.biv .abs 1))
 (.cons (.forS (.nm 2) (.rng (.cons (.int 20000) .nil)) (.cons (.ife (.cmpT .Eq (.var 1) (.int 0)) (.cons .brk
 .nil) .nil)
 (.cons (.set 3 (.bin .Mod (.biv .int 0) (.var 1)))
 (.cons (.set 0 (.var 1))
 (.cons (.set 1 (.var 3))
 .nil)))))
 (.cons (.ret (.var 0))
 .nil))))
def d__law_gcd : Def := { name := "_law_gcd", np := 2, N := ["one", "two", "turn", "rest"], bv := [true, true], body := b__law_gcd }
/-- _law_ratio -/
def b__law_ratio : Ss := (.cons (.set 2 (.call 8 (.cons (.var 0) (.cons (.var 1) .nil))))
 (.cons (.ife (.cmpT .Lt (.var 1) (.int 0)) (.cons (.set 2 (.neg (.var 2)))
 .nil) .nil)
 (.cons (.ret (.tup (.cons (.bin .FloorDiv (.var 0) (.var 2)) (.cons (.bin .FloorDiv (.var 1) (.var 2)) .nil))))
 .nil)))
def d__law_ratio : Def := { name := "_law_ratio", np := 2, N := ["top", "bottom", "common"], bv := [false, false], body := b__law_ratio }
/-- _law_is_ratio -/
def b__law_is_ratio : Ss := (.cons (.ife (.orT (.notT (.ev (.isi 0 .tuple))) (.oneT (.cmpT .NotEq (.biv .len 0) (.int 2)))) (.cons (.ret (.bl false))
 .nil) .nil)
 (.cons (.ife (.orT (.notT (.ev (.call 5 (.cons (.ixv 0 (.int 0)) .nil)))) (.orT (.notT (.ev (.call 5 (.cons (.ixv 0 (.int 1)) .nil)))) (.oneT (.cmpT .Lt (.ixv 0 (.int 1)) (.int 1))))) (.cons (.ret (.bl false))
 .nil) .nil)
 (.cons (.ret (.cmp .Eq (.call 8 (.cons (.ixv 0 (.int 0)) (.cons (.ixv 0 (.int 1)) .nil))) (.int 1)))
 .nil)))
def d__law_is_ratio : Def := { name := "_law_is_ratio", np := 1, N := ["value"], bv := [false], body := b__law_is_ratio }
/-- _law_joined -/
def b__law_joined : Ss := (.cons (.set 1 (.int 0))
 (.cons (.forS (.nm 2) (.ov (.var 0)) (.cons (.set 1 (.bin .Add (.bin .Mult (.var 1) (.int 10)) (.var 2)))
 .nil))
 (.cons (.ret (.var 1))
 .nil)))
def d__law_joined : Def := { name := "_law_joined", np := 1, N := ["row", "number", "digit"], bv := [false], body := b__law_joined }
/-- _law_fraction -/
def b__law_fraction : Ss := (.cons (.set 2 (.call 7 (.cons (.call 6 (.cons (.var 0) (.cons (.var 1) .nil))) (.cons (.lst (.cons (.int 8) (.cons (.int 2) (.cons (.int 6) (.cons (.int 6) (.cons (.int 800) (.cons (.int 800) .nil))))))) .nil))))
 (.cons (.set 3 (.bin .Add (.int 1) (.ixv 2 (.int 2))))
 (.cons (.set 4 (.bin .Add (.int 1) (.ixv 2 (.int 3))))
 (.cons (.ife (.cmpT .Eq (.ixv 2 (.int 0)) (.int 0)) (.cons (.set 3 (.bin .Add (.int 1) (.ixv 2 (.int 4))))
 (.cons (.set 4 (.bin .Add (.int 1) (.ixv 2 (.int 5))))
 .nil)) .nil)
 (.cons (.set 5 (.call 11 (.cons (.call 7 (.cons (.call 6 (.cons (.var 0) (.cons (.bin .Add (.var 1) (.int 1)) .nil))) (.cons (.bin .Mult (.lst (.cons (.int 10) .nil)) (.var 3)) .nil))) .nil)))
 (.cons (.set 6 (.bi .max (.cons (.int 1) (.cons (.call 11 (.cons (.call 7 (.cons (.call 6 (.cons (.var 0) (.cons (.bin .Add (.var 1) (.int 2)) .nil))) (.cons (.bin .Mult (.lst (.cons (.int 10) .nil)) (.var 4)) .nil))) .nil)) .nil))))
 (.cons (.ife (.cmpT .Eq (.ixv 2 (.int 0)) (.int 1)) (.cons (.set 6 (.int 1))
 .nil) .nil)
 (.cons (.ife (.cmpT .Eq (.ixv 2 (.int 1)) (.int 1)) (.cons (.set 5 (.neg (.var 5)))
 .nil) .nil)
 (.cons (.ret (.call 9 (.cons (.var 5) (.cons (.var 6) .nil))))
 .nil)))))))))
def d__law_fraction : Def := { name := "_law_fraction", np := 2, N := ["script", "at", "row", "above", "below", "top", "bottom"], bv := [false, false], body := b__law_fraction }
/-- _law_written -/
def b__law_written : Ss := (.cons (.ife (.ev (.call 4 (.cons (.ixv 0 (.int 1)) (.cons (.int 1) .nil)))) (.cons (.ret (.bi .str (.cons (.ixv 0 (.int 0)) .nil)))
 .nil) .nil)
 (.cons (.ret (.bin .Add (.bin .Add (.bi .str (.cons (.ixv 0 (.int 0)) .nil)) (.str "/")) (.bi .str (.cons (.ixv 0 (.int 1)) .nil))))
 .nil))
def d__law_written : Def := { name := "_law_written", np := 1, N := ["value"], bv := [false], body := b__law_written }
/-- _law_number_word -/
def b__law_number_word : Ss := (.cons (.set 1 (.var 0))
 (.cons (.ife (.ev (.call 4 (.cons (.slc (.var 0) .none (.some (.int 1))) (.cons (.str "-") .nil)))) (.cons (.set 1 (.slc (.var 0) (.some (.int 1)) .none))
 .nil) .nil)
 (.cons (.ife (.orT (.cmpT .Eq (.biv .len 1) (.int 0)) (.oneT (.cmpT .Gt (.biv .len 1) (.int 800)))) (.cons (.ret .non)
 .nil) .nil)
 (.cons (.set 2 (.int 0))
 (.cons (.forS (.nm 3) (.ov (.var 1)) (.cons (.set 4 (.bm .find (.str "0123456789") (.cons (.var 3) .nil)))
 (.cons (.ife (.cmpT .Lt (.var 4) (.int 0)) (.cons (.ret .non)
 .nil) .nil)
 (.cons (.set 2 (.bin .Add (.bin .Mult (.var 2) (.int 10)) (.var 4)))
 .nil))))
 (.cons (.ife (.andT (.ev (.call 4 (.cons (.ixv 1 (.int 0)) (.cons (.str "0") .nil)))) (.oneT (.notT (.ev (.call 4 (.cons (.var 0) (.cons (.str "0") .nil))))))) (.cons (.ret .non)
 .nil) .nil)
 (.cons (.ife (.ev (.call 4 (.cons (.slc (.var 0) .none (.some (.int 1))) (.cons (.str "-") .nil)))) (.cons (.ret (.neg (.var 2)))
 .nil) .nil)
 (.cons (.ret (.var 2))
 .nil))))))))
def d__law_number_word : Def := { name := "_law_number_word", np := 1, N := ["text", "digits", "number", "sign", "digit"], bv := [false], body := b__law_number_word }
/-- _law_fraction_word -/
def b__law_fraction_word : Ss := (.cons (.set 1 (.bm .find (.var 0) (.cons (.str "/") .nil)))
 (.cons (.ife (.cmpT .Lt (.var 1) (.int 0)) (.cons (.set 4 (.call 14 (.cons (.var 0) .nil)))
 (.cons (.ife (.cmpT .Is (.var 4) .non) (.cons (.ret .non)
 .nil) .nil)
 (.cons (.ret (.tup (.cons (.var 4) (.cons (.int 1) .nil))))
 .nil))) .nil)
 (.cons (.set 2 (.call 14 (.cons (.slc (.var 0) .none (.some (.var 1))) .nil)))
 (.cons (.set 3 (.call 14 (.cons (.slc (.var 0) (.some (.bin .Add (.var 1) (.int 1))) .none) .nil)))
 (.cons (.ife (.orT (.cmpT .Is (.var 2) .non) (.orT (.cmpT .Is (.var 3) .non) (.orT (.cmpT .Lt (.var 3) (.int 2)) (.oneT (.notT (.ev (.call 4 (.cons (.call 8 (.cons (.var 2) (.cons (.var 3) .nil))) (.cons (.int 1) .nil))))))))) (.cons (.ret .non)
 .nil) .nil)
 (.cons (.ret (.tup (.cons (.var 2) (.cons (.var 3) .nil))))
 .nil))))))
def d__law_fraction_word : Def := { name := "_law_fraction_word", np := 1, N := ["text", "cut", "top", "bottom", "number"], bv := [false], body := b__law_fraction_word }
/-- _law_sign -/
def b__law_sign : Ss := (.cons (.ife (.cmpT .Eq (.bin .Mod (.biv .int 0) (.int 2)) (.int 0)) (.cons (.ret (.idx (.str "0123456789-/") (.bin .Mod (.bin .FloorDiv (.var 0) (.int 2)) (.int 12))))
 .nil) .nil)
 (.cons (.set 1 (.str " !\"#$&'()*+,-./0123456789:;<=>?@ABCDEFGHIJKLMNOPQRSTUVWXYZ[\\]^_"))
 (.cons (.set 1 (.bin .Add (.var 1) (.str "`abcdefghijklmnopqrstuvwxyz{|}~\n")))
 (.cons (.ret (.ixv 1 (.bin .Mod (.bin .FloorDiv (.var 0) (.int 2)) (.int 95))))
 .nil))))
def d__law_sign : Def := { name := "_law_sign", np := 1, N := ["number", "wide"], bv := [false], body := b__law_sign }
/-- _law_changed -/
def b__law_changed : Ss := (.cons (.set 2 (.bi .str (.cons (.ixv 0 (.int 0)) .nil)))
 (.cons (.set 3 (.bi .str (.cons (.ixv 0 (.int 1)) .nil)))
 (.cons (.set 4 (.call 13 (.cons (.var 0) .nil)))
 (.cons (.set 5 (.bin .Add (.int 2) (.bin .Mod (.ixv 1 (.int 1)) (.int 8))))
 (.cons (.set 6 (.bin .Mod (.ixv 1 (.int 4)) (.bin .Add (.biv .len 4) (.int 1))))
 (.cons (.set 7 (.call 16 (.cons (.ixv 1 (.int 5)) .nil)))
 (.cons (.set 8 (.bin .Add (.bin .Add (.bi .str (.cons (.bin .Add (.int 1) (.ixv 1 (.int 2))) .nil)) (.bin .Mult (.bi .str (.cons (.ixv 1 (.int 3)) .nil)) (.bin .Add (.int 796) (.bin .Mod (.ixv 1 (.int 1)) (.int 6))))) (.slc (.bi .str (.cons (.bin .Add (.bin .FloorDiv (.ixv 1 (.int 1)) (.int 6)) (.int 2)) .nil)) (.some (.neg (.int 1))) .none)))
 (.cons (.set 9 (.idx (.lst (.cons (.str "") (.cons (.str "-") (.cons (.str "-0") (.cons (.str "0") (.cons (.str "/") (.cons (.str "00") (.cons (.str "0/1") (.cons (.str "-/2") .nil))))))))) (.bin .Mod (.ixv 1 (.int 1)) (.int 8))))
 (.cons (.set 10 (.idx (.lst (.cons (.str " ") (.cons (.str "\n") .nil))) (.bin .Mod (.ixv 1 (.int 1)) (.int 2))))
 (.cons (.set 11 (.lst (.cons (.var 4) (.cons (.var 9) (.cons (.bin .Add (.str "0") (.var 4)) (.cons (.bin .Add (.str "-") (.var 4)) (.cons (.bin .Add (.str "+") (.var 4)) (.cons (.bin .Add (.bin .Add (.var 2) (.str "/0")) (.var 3)) (.cons (.bin .Add (.bin .Add (.var 2) (.str "/-")) (.var 3)) (.cons (.bin .Add (.var 2) (.str "/1")) (.cons (.bin .Add (.var 2) (.str "/0")) .nil)))))))))))
 (.cons (.set 11 (.bin .Add (.var 11) (.lst (.cons (.bin .Add (.var 2) (.str "/")) (.cons (.bin .Add (.str "/") (.var 3)) (.cons (.bin .Add (.bin .Add (.var 2) (.str "//")) (.var 3)) (.cons (.bin .Add (.str "0/") (.var 3)) (.cons (.bin .Add (.str "-0/") (.var 3)) (.cons (.bin .Add (.bin .Add (.var 3) (.str "/")) (.var 2)) .nil)))))))))
 (.cons (.set 11 (.bin .Add (.var 11) (.lstT (.bin .Add (.bin .Add (.bin .Add (.bin .Add (.var 2) (.str "/")) (.var 3)) (.str "/")) (.var 3)) (.cons (.bin .Add (.bin .Add (.var 2) (.str ".")) (.var 3)) (.cons (.bin .Add (.var 4) (.var 10)) (.cons (.bin .Add (.var 10) (.var 4)) .nil))) (.var 4) "/" " /")))
 (.cons (.set 11 (.bin .Add (.var 11) (.lst (.cons (.var 8) (.cons (.bin .Add (.str "-") (.var 8)) (.cons (.bin .Add (.bin .Add (.var 8) (.str "/")) (.var 3)) (.cons (.bin .Add (.bin .Add (.var 2) (.str "/")) (.var 8)) .nil)))))))
 (.cons (.set 11 (.bin .Add (.var 11) (.lst (.cons (.bin .Add (.bin .Add (.slc (.var 4) .none (.some (.var 6))) (.var 7)) (.slc (.var 4) (.some (.var 6)) .none)) (.cons (.bin .Add (.bin .Add (.slc (.var 4) .none (.some (.var 6))) (.var 7)) (.slc (.var 4) (.some (.bin .Add (.var 6) (.int 1))) .none)) (.cons (.bin .Add (.slc (.var 4) .none (.some (.var 6))) (.slc (.var 4) (.some (.bin .Add (.var 6) (.int 1))) .none)) .nil))))))
 (.cons (.app 11 (.bin .Add (.bin .Add (.bi .str (.cons (.bin .Mult (.ixv 0 (.int 0)) (.var 5)) .nil)) (.str "/")) (.bi .str (.cons (.bin .Mult (.ixv 0 (.int 1)) (.var 5)) .nil))))
 (.cons (.ret (.ixv 11 (.ixv 1 (.int 0))))
 .nil))))))))))))))))
def d__law_changed : Def := { name := "_law_changed", np := 2, N := ["value", "row", "top", "bottom", "word", "factor", "place", "sign", "great", "odd", "blank", "words"], bv := [false, false], body := b__law_changed }
/-- _law_pool_word -/
def b__law_pool_word : Ss := (.cons (.set 1 (.call 7 (.cons (.var 0) (.cons (.bin .Add (.lst (.cons (.int 12) .nil)) (.bin .Mult (.lst (.cons (.int 27) .nil)) (.int 11))) .nil))))
 (.cons (.ret (.bm .join (.str "") (.cons (.lc [2] (.idx (.str "01234567890123456789-//+ a.") (.ixv 1 (.bin .Add (.int 1) (.var 2)))) (.nm 2) (.rng (.cons (.ixv 1 (.int 0)) .nil)) .none) .nil)))
 .nil))
def d__law_pool_word : Def := { name := "_law_pool_word", np := 1, N := ["cell", "row", "k"], bv := [false], body := b__law_pool_word }
/-- _law_agrees -/
def b__law_agrees : Ss := (.cons (.set 1 (.call 15 (.cons (.var 0) .nil)))
 (.cons (.tryS (.cons (.set 3 (.call 2 (.cons (.var 0) .nil)))
 .nil) 16 2 (.cons (.ife (.ev (.isx 2 [6, 11, 7, 2, 17, 15, 10, 3, 13, 12])) (.cons (.ret (.bl false))
 .nil) .nil)
 (.cons (.ife (.ev (.isx 2 [5, 4, 14, 8, 20, 18, 21, 19, 9, 1])) (.cons (.ret (.bl false))
 .nil) .nil)
 (.cons (.ife (.orT (.notT (.ev (.isx 2 [0]))) (.orT (.notT (.ev (.isv 2))) (.oneT (.notT (.ev (.isg (.xfld 2 "word") .str)))))) (.cons (.ret (.bl false))
 .nil) .nil)
 (.cons (.ret (.andE (.cmp .Is (.var 1) .non) (.one (.call 4 (.cons (.xfld 2 "word") (.cons (.var 0) .nil))))))
 .nil)))))
 (.cons (.ret (.andE (.cmp .IsNot (.var 1) .non) (.andE (.call 10 (.cons (.var 3) .nil)) (.one (.call 4 (.cons (.var 3) (.cons (.var 1) .nil)))))))
 .nil)))
def d__law_agrees : Def := { name := "_law_agrees", np := 1, N := ["word", "due", "e", "told"], bv := [false], body := b__law_agrees }
/-- _law_there_and_back -/
def b__law_there_and_back : Ss := (.cons (.set 1 (.call 13 (.cons (.var 0) .nil)))
 (.cons (.set 2 (.lst (.cons (.ixv 0 (.int 0)) (.cons (.ixv 0 (.int 1)) .nil))))
 (.cons (.set 3 (.call 3 (.cons (.tup (.cons (.ixv 0 (.int 0)) (.cons (.ixv 0 (.int 1)) .nil))) .nil)))
 (.cons (.set 4 (.call 3 (.cons (.var 2) .nil)))
 (.cons (.ife (.orT (.notT (.ev (.isi 3 .str))) (.oneT (.notT (.ev (.isi 4 .str))))) (.cons (.ret (.bl false))
 .nil) .nil)
 (.cons (.ife (.orT (.notT (.ev (.call 4 (.cons (.var 3) (.cons (.var 1) .nil))))) (.orT (.notT (.ev (.call 4 (.cons (.var 4) (.cons (.var 1) .nil))))) (.oneT (.notT (.ev (.call 4 (.cons (.var 2) (.cons (.lst (.cons (.ixv 0 (.int 0)) (.cons (.ixv 0 (.int 1)) .nil))) .nil)))))))) (.cons (.ret (.bl false))
 .nil) .nil)
 (.cons (.ret (.andE (.call 4 (.cons (.call 15 (.cons (.var 1) .nil)) (.cons (.var 0) .nil))) (.one (.call 19 (.cons (.var 1) .nil)))))
 .nil)))))))
def d__law_there_and_back : Def := { name := "_law_there_and_back", np := 1, N := ["value", "word", "pair", "told", "other"], bv := [false], body := b__law_there_and_back }
/-- law -/
def b_law : Ss := (.cons (.set 1 (.lst (.cons (.call 12 (.cons (.var 0) (.cons (.int 0) .nil))) (.cons (.call 12 (.cons (.var 0) (.cons (.int 3) .nil))) .nil))))
 (.cons (.ife (.orT (.notT (.ev (.call 20 (.cons (.ixv 1 (.int 0)) .nil)))) (.oneT (.notT (.ev (.call 20 (.cons (.ixv 1 (.int 1)) .nil)))))) (.cons (.ret (.bl false))
 .nil) .nil)
 (.cons (.forS (.nm 2) (.rng (.cons (.int 10) .nil)) (.cons (.set 3 (.call 7 (.cons (.call 6 (.cons (.var 0) (.cons (.bin .Add (.int 6) (.var 2)) .nil))) (.cons (.lst (.cons (.int 28) (.cons (.int 48) (.cons (.int 9) (.cons (.int 10) (.cons (.int 1000) (.cons (.int 190) .nil))))))) .nil))))
 (.cons (.ife (.notT (.ev (.call 19 (.cons (.call 17 (.cons (.ixv 1 (.bin .Mod (.biv .int 2) (.int 2))) (.cons (.var 3) .nil))) .nil)))) (.cons (.ret (.bl false))
 .nil) .nil)
 .nil)))
 (.cons (.forS (.nm 2) (.rng (.cons (.int 8) .nil)) (.cons (.ife (.notT (.ev (.call 19 (.cons (.call 18 (.cons (.call 6 (.cons (.var 0) (.cons (.bin .Add (.int 16) (.var 2)) .nil))) .nil)) .nil)))) (.cons (.ret (.bl false))
 .nil) .nil)
 .nil))
 (.cons (.ret (.call 20 (.cons (.ixv 1 (.int 0)) .nil)))
 .nil)))))
def d_law : Def := { name := "law", np := 1, N := ["script", "values", "k", "row"], bv := [false], body := b_law }
def gl : Glo := { fs := [("parse_number", 0), ("read_ratio", 1), ("parse_ratio", 2), ("format_ratio", 3), ("_law_is", 4), ("_law_whole", 5), ("_law_cell", 6), ("_law_digits", 7), ("_law_gcd", 8), ("_law_ratio", 9), ("_law_is_ratio", 10), ("_law_joined", 11), ("_law_fraction", 12), ("_law_written", 13), ("_law_number_word", 14), ("_law_fraction_word", 15), ("_law_sign", 16), ("_law_changed", 17), ("_law_pool_word", 18), ("_law_agrees", 19), ("_law_there_and_back", 20), ("law", 21)], cs := [("CutError", 0), ("ZeroBottom", 1), ("BadShape", 2), ("FlatLattice", 3), ("NothingToUndo", 4), ("NothingToRedo", 5), ("BadLine", 6), ("BadRest", 7), ("OffWheel", 8), ("Wasteful", 9), ("CutsOff", 10), ("BadOrder", 11), ("NotTwoSlopes", 12), ("NoWalk", 13), ("OffRest", 14), ("CheaperColumn", 15), ("BadWord", 16), ("BadText", 17), ("TakenName", 18), ("UnknownName", 19), ("StillUsed", 20), ("TooFine", 21)], ks := [], gc := true }
def subs : List (Nat × Nat) := [(16, 16), (16, 0)]
def xfs : Nat → List Str
  | 16 => ["word"]
  | _ => []
def pg : Prg := { defs := [d_parse_number, d_read_ratio, d_parse_ratio, d_format_ratio, d__law_is, d__law_whole, d__law_cell, d__law_digits, d__law_gcd, d__law_ratio, d__law_is_ratio, d__law_joined, d__law_fraction, d__law_written, d__law_number_word, d__law_fraction_word, d__law_sign, d__law_changed, d__law_pool_word, d__law_agrees, d__law_there_and_back, d_law], sub := fun a b => subs.contains (a, b), xf := xfs, rcs := [16], gv := fun _ => .non, W := 100000 }
def cmf (C_CutError C_ZeroBottom C_BadShape C_FlatLattice C_NothingToUndo C_NothingToRedo C_BadLine C_BadRest C_OffWheel C_Wasteful C_CutsOff C_BadOrder C_NotTwoSlopes C_NoWalk C_OffRest C_CheaperColumn C_BadWord C_BadText C_TakenName C_UnknownName C_StillUsed C_TooFine : Addr) : Nat → Addr
  | 0 => C_CutError
  | 1 => C_ZeroBottom
  | 2 => C_BadShape
  | 3 => C_FlatLattice
  | 4 => C_NothingToUndo
  | 5 => C_NothingToRedo
  | 6 => C_BadLine
  | 7 => C_BadRest
  | 8 => C_OffWheel
  | 9 => C_Wasteful
  | 10 => C_CutsOff
  | 11 => C_BadOrder
  | 12 => C_NotTwoSlopes
  | 13 => C_NoWalk
  | 14 => C_OffRest
  | 15 => C_CheaperColumn
  | 16 => C_BadWord
  | 17 => C_BadText
  | 18 => C_TakenName
  | 19 => C_UnknownName
  | 20 => C_StillUsed
  | 21 => C_TooFine
  | _ => 0
set_option maxHeartbeats 40000000 in
theorem all_mk {P : Program} {w : World} {K : PySem.W.Frag} {h : Heap} {mg : Str → Option Value} {fa : Addr} (X : K.In h) (G : h.Ns mainGlobals mg) (hfa : mg "law" = some (.ref fa))
    {f_parse_number f_read_ratio f_parse_ratio f_format_ratio f__law_is f__law_whole f__law_cell f__law_digits f__law_gcd f__law_ratio f__law_is_ratio f__law_joined f__law_fraction f__law_written f__law_number_word f__law_fraction_word f__law_sign f__law_changed f__law_pool_word f__law_agrees f__law_there_and_back f_law C_CutError C_ZeroBottom C_BadShape C_FlatLattice C_NothingToUndo C_NothingToRedo C_BadLine C_BadRest C_OffWheel C_Wasteful C_CutsOff C_BadOrder C_NotTwoSlopes C_NoWalk C_OffRest C_CheaperColumn C_BadWord C_BadText C_TakenName C_UnknownName C_StillUsed C_TooFine i_BadWord : Addr}
    {od_parse_number an_parse_number od_read_ratio an_read_ratio od_parse_ratio an_parse_ratio od_format_ratio an_format_ratio od__law_is an__law_is od__law_whole an__law_whole od__law_cell an__law_cell od__law_digits an__law_digits od__law_gcd an__law_gcd od__law_ratio an__law_ratio od__law_is_ratio an__law_is_ratio od__law_joined an__law_joined od__law_fraction an__law_fraction od__law_written an__law_written od__law_number_word an__law_number_word od__law_fraction_word an__law_fraction_word od__law_sign an__law_sign od__law_changed an__law_changed od__law_pool_word an__law_pool_word od__law_agrees an__law_agrees od__law_there_and_back an__law_there_and_back od_law an_law od_iBadWord an_iBadWord : Option Addr} {sl_parse_number sl_read_ratio sl_parse_ratio sl_format_ratio sl__law_is sl__law_whole sl__law_cell sl__law_digits sl__law_gcd sl__law_ratio sl__law_is_ratio sl__law_joined sl__law_fraction sl__law_written sl__law_number_word sl__law_fraction_word sl__law_sign sl__law_changed sl__law_pool_word sl__law_agrees sl__law_there_and_back sl_law sl_iBadWord : Array (Option Value)} {oc_parse_number kV_parse_number dc_parse_number pm_parse_number cd_parse_number ct_parse_number oc_read_ratio kV_read_ratio dc_read_ratio pm_read_ratio cd_read_ratio ct_read_ratio oc_parse_ratio kV_parse_ratio dc_parse_ratio pm_parse_ratio cd_parse_ratio ct_parse_ratio oc_format_ratio kV_format_ratio dc_format_ratio pm_format_ratio cd_format_ratio ct_format_ratio oc__law_is kV__law_is dc__law_is pm__law_is cd__law_is ct__law_is oc__law_whole kV__law_whole dc__law_whole pm__law_whole cd__law_whole ct__law_whole oc__law_cell kV__law_cell dc__law_cell pm__law_cell cd__law_cell ct__law_cell oc__law_digits kV__law_digits dc__law_digits pm__law_digits cd__law_digits ct__law_digits oc__law_gcd kV__law_gcd dc__law_gcd pm__law_gcd cd__law_gcd ct__law_gcd oc__law_ratio kV__law_ratio dc__law_ratio pm__law_ratio cd__law_ratio ct__law_ratio oc__law_is_ratio kV__law_is_ratio dc__law_is_ratio pm__law_is_ratio cd__law_is_ratio ct__law_is_ratio oc__law_joined kV__law_joined dc__law_joined pm__law_joined cd__law_joined ct__law_joined oc__law_fraction kV__law_fraction dc__law_fraction pm__law_fraction cd__law_fraction ct__law_fraction oc__law_written kV__law_written dc__law_written pm__law_written cd__law_written ct__law_written oc__law_number_word kV__law_number_word dc__law_number_word pm__law_number_word cd__law_number_word ct__law_number_word oc__law_fraction_word kV__law_fraction_word dc__law_fraction_word pm__law_fraction_word cd__law_fraction_word ct__law_fraction_word oc__law_sign kV__law_sign dc__law_sign pm__law_sign cd__law_sign ct__law_sign oc__law_changed kV__law_changed dc__law_changed pm__law_changed cd__law_changed ct__law_changed oc__law_pool_word kV__law_pool_word dc__law_pool_word pm__law_pool_word cd__law_pool_word ct__law_pool_word oc__law_agrees kV__law_agrees dc__law_agrees pm__law_agrees cd__law_agrees ct__law_agrees oc__law_there_and_back kV__law_there_and_back dc__law_there_and_back pm__law_there_and_back cd__law_there_and_back ct__law_there_and_back oc_law kV_law dc_law pm_law cd_law ct_law oc_iBadWord kV_iBadWord dc_iBadWord pm_iBadWord cd_iBadWord ct_iBadWord : Value}
    {nm_BadWord q_BadWord : Str} {N_BadWord : Addr} {bs_BadWord bm_BadWord : List Value} {sn_BadWord : List Str} {sub_BadWord : List Value} {ab_BadWord : Bool} {col_BadWord : Option Bool} {dd_BadWord : Option Addr} {m0_BadWord m1_BadWord m2_BadWord m3_BadWord m5_BadWord : Option Value}
    (a_parse_number : PySem.W.nsIn K mainGlobals "parse_number" = some (some (.ref f_parse_number)))
    (l_parse_number : K.lookup f_parse_number = some ⟨oc_parse_number, od_parse_number, .func (PySem.W.fnOf "parse_number" "parse_number" (defArgs (top 25)) (defBody (top 25)) (defScope (top 25)) .none kV_parse_number dc_parse_number pm_parse_number an_parse_number cd_parse_number ct_parse_number), sl_parse_number⟩)
    (c_parse_number : PySem.W.codeIn K cd_parse_number "parse_number" = true)
    (k_parse_number : PySem.W.keepIn K (.ref f_parse_number) = true)
    (a_read_ratio : PySem.W.nsIn K mainGlobals "read_ratio" = some (some (.ref f_read_ratio)))
    (l_read_ratio : K.lookup f_read_ratio = some ⟨oc_read_ratio, od_read_ratio, .func (PySem.W.fnOf "read_ratio" "read_ratio" (defArgs (top 26)) (defBody (top 26)) (defScope (top 26)) .none kV_read_ratio dc_read_ratio pm_read_ratio an_read_ratio cd_read_ratio ct_read_ratio), sl_read_ratio⟩)
    (c_read_ratio : PySem.W.codeIn K cd_read_ratio "read_ratio" = true)
    (k_read_ratio : PySem.W.keepIn K (.ref f_read_ratio) = true)
    (a_parse_ratio : PySem.W.nsIn K mainGlobals "parse_ratio" = some (some (.ref f_parse_ratio)))
    (l_parse_ratio : K.lookup f_parse_ratio = some ⟨oc_parse_ratio, od_parse_ratio, .func (PySem.W.fnOf "parse_ratio" "parse_ratio" (defArgs (top 27)) (defBody (top 27)) (defScope (top 27)) .none kV_parse_ratio dc_parse_ratio pm_parse_ratio an_parse_ratio cd_parse_ratio ct_parse_ratio), sl_parse_ratio⟩)
    (c_parse_ratio : PySem.W.codeIn K cd_parse_ratio "parse_ratio" = true)
    (k_parse_ratio : PySem.W.keepIn K (.ref f_parse_ratio) = true)
    (a_format_ratio : PySem.W.nsIn K mainGlobals "format_ratio" = some (some (.ref f_format_ratio)))
    (l_format_ratio : K.lookup f_format_ratio = some ⟨oc_format_ratio, od_format_ratio, .func (PySem.W.fnOf "format_ratio" "format_ratio" (defArgs (top 28)) (defBody (top 28)) (defScope (top 28)) .none kV_format_ratio dc_format_ratio pm_format_ratio an_format_ratio cd_format_ratio ct_format_ratio), sl_format_ratio⟩)
    (c_format_ratio : PySem.W.codeIn K cd_format_ratio "format_ratio" = true)
    (k_format_ratio : PySem.W.keepIn K (.ref f_format_ratio) = true)
    (a__law_is : PySem.W.nsIn K mainGlobals "_law_is" = some (some (.ref f__law_is)))
    (l__law_is : K.lookup f__law_is = some ⟨oc__law_is, od__law_is, .func (PySem.W.fnOf "_law_is" "_law_is" (defArgs (top 30)) (defBody (top 30)) (defScope (top 30)) .none kV__law_is dc__law_is pm__law_is an__law_is cd__law_is ct__law_is), sl__law_is⟩)
    (c__law_is : PySem.W.codeIn K cd__law_is "_law_is" = true)
    (k__law_is : PySem.W.keepIn K (.ref f__law_is) = true)
    (a__law_whole : PySem.W.nsIn K mainGlobals "_law_whole" = some (some (.ref f__law_whole)))
    (l__law_whole : K.lookup f__law_whole = some ⟨oc__law_whole, od__law_whole, .func (PySem.W.fnOf "_law_whole" "_law_whole" (defArgs (top 31)) (defBody (top 31)) (defScope (top 31)) .none kV__law_whole dc__law_whole pm__law_whole an__law_whole cd__law_whole ct__law_whole), sl__law_whole⟩)
    (c__law_whole : PySem.W.codeIn K cd__law_whole "_law_whole" = true)
    (k__law_whole : PySem.W.keepIn K (.ref f__law_whole) = true)
    (a__law_cell : PySem.W.nsIn K mainGlobals "_law_cell" = some (some (.ref f__law_cell)))
    (l__law_cell : K.lookup f__law_cell = some ⟨oc__law_cell, od__law_cell, .func (PySem.W.fnOf "_law_cell" "_law_cell" (defArgs (top 32)) (defBody (top 32)) (defScope (top 32)) .none kV__law_cell dc__law_cell pm__law_cell an__law_cell cd__law_cell ct__law_cell), sl__law_cell⟩)
    (c__law_cell : PySem.W.codeIn K cd__law_cell "_law_cell" = true)
    (k__law_cell : PySem.W.keepIn K (.ref f__law_cell) = true)
    (a__law_digits : PySem.W.nsIn K mainGlobals "_law_digits" = some (some (.ref f__law_digits)))
    (l__law_digits : K.lookup f__law_digits = some ⟨oc__law_digits, od__law_digits, .func (PySem.W.fnOf "_law_digits" "_law_digits" (defArgs (top 33)) (defBody (top 33)) (defScope (top 33)) .none kV__law_digits dc__law_digits pm__law_digits an__law_digits cd__law_digits ct__law_digits), sl__law_digits⟩)
    (c__law_digits : PySem.W.codeIn K cd__law_digits "_law_digits" = true)
    (k__law_digits : PySem.W.keepIn K (.ref f__law_digits) = true)
    (a__law_gcd : PySem.W.nsIn K mainGlobals "_law_gcd" = some (some (.ref f__law_gcd)))
    (l__law_gcd : K.lookup f__law_gcd = some ⟨oc__law_gcd, od__law_gcd, .func (PySem.W.fnOf "_law_gcd" "_law_gcd" (defArgs (top 34)) (defBody (top 34)) (defScope (top 34)) .none kV__law_gcd dc__law_gcd pm__law_gcd an__law_gcd cd__law_gcd ct__law_gcd), sl__law_gcd⟩)
    (c__law_gcd : PySem.W.codeIn K cd__law_gcd "_law_gcd" = true)
    (k__law_gcd : PySem.W.keepIn K (.ref f__law_gcd) = true)
    (a__law_ratio : PySem.W.nsIn K mainGlobals "_law_ratio" = some (some (.ref f__law_ratio)))
    (l__law_ratio : K.lookup f__law_ratio = some ⟨oc__law_ratio, od__law_ratio, .func (PySem.W.fnOf "_law_ratio" "_law_ratio" (defArgs (top 35)) (defBody (top 35)) (defScope (top 35)) .none kV__law_ratio dc__law_ratio pm__law_ratio an__law_ratio cd__law_ratio ct__law_ratio), sl__law_ratio⟩)
    (c__law_ratio : PySem.W.codeIn K cd__law_ratio "_law_ratio" = true)
    (k__law_ratio : PySem.W.keepIn K (.ref f__law_ratio) = true)
    (a__law_is_ratio : PySem.W.nsIn K mainGlobals "_law_is_ratio" = some (some (.ref f__law_is_ratio)))
    (l__law_is_ratio : K.lookup f__law_is_ratio = some ⟨oc__law_is_ratio, od__law_is_ratio, .func (PySem.W.fnOf "_law_is_ratio" "_law_is_ratio" (defArgs (top 36)) (defBody (top 36)) (defScope (top 36)) .none kV__law_is_ratio dc__law_is_ratio pm__law_is_ratio an__law_is_ratio cd__law_is_ratio ct__law_is_ratio), sl__law_is_ratio⟩)
    (c__law_is_ratio : PySem.W.codeIn K cd__law_is_ratio "_law_is_ratio" = true)
    (k__law_is_ratio : PySem.W.keepIn K (.ref f__law_is_ratio) = true)
    (a__law_joined : PySem.W.nsIn K mainGlobals "_law_joined" = some (some (.ref f__law_joined)))
    (l__law_joined : K.lookup f__law_joined = some ⟨oc__law_joined, od__law_joined, .func (PySem.W.fnOf "_law_joined" "_law_joined" (defArgs (top 37)) (defBody (top 37)) (defScope (top 37)) .none kV__law_joined dc__law_joined pm__law_joined an__law_joined cd__law_joined ct__law_joined), sl__law_joined⟩)
    (c__law_joined : PySem.W.codeIn K cd__law_joined "_law_joined" = true)
    (k__law_joined : PySem.W.keepIn K (.ref f__law_joined) = true)
    (a__law_fraction : PySem.W.nsIn K mainGlobals "_law_fraction" = some (some (.ref f__law_fraction)))
    (l__law_fraction : K.lookup f__law_fraction = some ⟨oc__law_fraction, od__law_fraction, .func (PySem.W.fnOf "_law_fraction" "_law_fraction" (defArgs (top 38)) (defBody (top 38)) (defScope (top 38)) .none kV__law_fraction dc__law_fraction pm__law_fraction an__law_fraction cd__law_fraction ct__law_fraction), sl__law_fraction⟩)
    (c__law_fraction : PySem.W.codeIn K cd__law_fraction "_law_fraction" = true)
    (k__law_fraction : PySem.W.keepIn K (.ref f__law_fraction) = true)
    (a__law_written : PySem.W.nsIn K mainGlobals "_law_written" = some (some (.ref f__law_written)))
    (l__law_written : K.lookup f__law_written = some ⟨oc__law_written, od__law_written, .func (PySem.W.fnOf "_law_written" "_law_written" (defArgs (top 39)) (defBody (top 39)) (defScope (top 39)) .none kV__law_written dc__law_written pm__law_written an__law_written cd__law_written ct__law_written), sl__law_written⟩)
    (c__law_written : PySem.W.codeIn K cd__law_written "_law_written" = true)
    (k__law_written : PySem.W.keepIn K (.ref f__law_written) = true)
    (a__law_number_word : PySem.W.nsIn K mainGlobals "_law_number_word" = some (some (.ref f__law_number_word)))
    (l__law_number_word : K.lookup f__law_number_word = some ⟨oc__law_number_word, od__law_number_word, .func (PySem.W.fnOf "_law_number_word" "_law_number_word" (defArgs (top 40)) (defBody (top 40)) (defScope (top 40)) .none kV__law_number_word dc__law_number_word pm__law_number_word an__law_number_word cd__law_number_word ct__law_number_word), sl__law_number_word⟩)
    (c__law_number_word : PySem.W.codeIn K cd__law_number_word "_law_number_word" = true)
    (k__law_number_word : PySem.W.keepIn K (.ref f__law_number_word) = true)
    (a__law_fraction_word : PySem.W.nsIn K mainGlobals "_law_fraction_word" = some (some (.ref f__law_fraction_word)))
    (l__law_fraction_word : K.lookup f__law_fraction_word = some ⟨oc__law_fraction_word, od__law_fraction_word, .func (PySem.W.fnOf "_law_fraction_word" "_law_fraction_word" (defArgs (top 41)) (defBody (top 41)) (defScope (top 41)) .none kV__law_fraction_word dc__law_fraction_word pm__law_fraction_word an__law_fraction_word cd__law_fraction_word ct__law_fraction_word), sl__law_fraction_word⟩)
    (c__law_fraction_word : PySem.W.codeIn K cd__law_fraction_word "_law_fraction_word" = true)
    (k__law_fraction_word : PySem.W.keepIn K (.ref f__law_fraction_word) = true)
    (a__law_sign : PySem.W.nsIn K mainGlobals "_law_sign" = some (some (.ref f__law_sign)))
    (l__law_sign : K.lookup f__law_sign = some ⟨oc__law_sign, od__law_sign, .func (PySem.W.fnOf "_law_sign" "_law_sign" (defArgs (top 42)) (defBody (top 42)) (defScope (top 42)) .none kV__law_sign dc__law_sign pm__law_sign an__law_sign cd__law_sign ct__law_sign), sl__law_sign⟩)
    (c__law_sign : PySem.W.codeIn K cd__law_sign "_law_sign" = true)
    (k__law_sign : PySem.W.keepIn K (.ref f__law_sign) = true)
    (a__law_changed : PySem.W.nsIn K mainGlobals "_law_changed" = some (some (.ref f__law_changed)))
    (l__law_changed : K.lookup f__law_changed = some ⟨oc__law_changed, od__law_changed, .func (PySem.W.fnOf "_law_changed" "_law_changed" (defArgs (top 43)) (defBody (top 43)) (defScope (top 43)) .none kV__law_changed dc__law_changed pm__law_changed an__law_changed cd__law_changed ct__law_changed), sl__law_changed⟩)
    (c__law_changed : PySem.W.codeIn K cd__law_changed "_law_changed" = true)
    (k__law_changed : PySem.W.keepIn K (.ref f__law_changed) = true)
    (a__law_pool_word : PySem.W.nsIn K mainGlobals "_law_pool_word" = some (some (.ref f__law_pool_word)))
    (l__law_pool_word : K.lookup f__law_pool_word = some ⟨oc__law_pool_word, od__law_pool_word, .func (PySem.W.fnOf "_law_pool_word" "_law_pool_word" (defArgs (top 44)) (defBody (top 44)) (defScope (top 44)) .none kV__law_pool_word dc__law_pool_word pm__law_pool_word an__law_pool_word cd__law_pool_word ct__law_pool_word), sl__law_pool_word⟩)
    (c__law_pool_word : PySem.W.codeIn K cd__law_pool_word "_law_pool_word" = true)
    (k__law_pool_word : PySem.W.keepIn K (.ref f__law_pool_word) = true)
    (a__law_agrees : PySem.W.nsIn K mainGlobals "_law_agrees" = some (some (.ref f__law_agrees)))
    (l__law_agrees : K.lookup f__law_agrees = some ⟨oc__law_agrees, od__law_agrees, .func (PySem.W.fnOf "_law_agrees" "_law_agrees" (defArgs (top 45)) (defBody (top 45)) (defScope (top 45)) .none kV__law_agrees dc__law_agrees pm__law_agrees an__law_agrees cd__law_agrees ct__law_agrees), sl__law_agrees⟩)
    (c__law_agrees : PySem.W.codeIn K cd__law_agrees "_law_agrees" = true)
    (k__law_agrees : PySem.W.keepIn K (.ref f__law_agrees) = true)
    (a__law_there_and_back : PySem.W.nsIn K mainGlobals "_law_there_and_back" = some (some (.ref f__law_there_and_back)))
    (l__law_there_and_back : K.lookup f__law_there_and_back = some ⟨oc__law_there_and_back, od__law_there_and_back, .func (PySem.W.fnOf "_law_there_and_back" "_law_there_and_back" (defArgs (top 46)) (defBody (top 46)) (defScope (top 46)) .none kV__law_there_and_back dc__law_there_and_back pm__law_there_and_back an__law_there_and_back cd__law_there_and_back ct__law_there_and_back), sl__law_there_and_back⟩)
    (c__law_there_and_back : PySem.W.codeIn K cd__law_there_and_back "_law_there_and_back" = true)
    (k__law_there_and_back : PySem.W.keepIn K (.ref f__law_there_and_back) = true)
    (a_law : PySem.W.nsIn K mainGlobals "law" = some (some (.ref f_law)))
    (l_law : K.lookup f_law = some ⟨oc_law, od_law, .func (PySem.W.fnOf "law" "law" (defArgs (top 47)) (defBody (top 47)) (defScope (top 47)) .none kV_law dc_law pm_law an_law cd_law ct_law), sl_law⟩)
    (c_law : PySem.W.codeIn K cd_law "law" = true)
    (k_law : PySem.W.keepIn K (.ref f_law) = true)
    (g_CutError : PySem.W.nsIn K mainGlobals "CutError" = some (some (.ref C_CutError)))
    (eb_CutError : PySem.W.subIn K (.ref C_CutError) (.type "BaseException") = some true)
    (hb_CutError : PySem.W.hasDictIn K C_CutError = true)
    (tb_CutError : PySem.W.typeIn K (.ref C_CutError) = some (.type "type"))
    (g_ZeroBottom : PySem.W.nsIn K mainGlobals "ZeroBottom" = some (some (.ref C_ZeroBottom)))
    (eb_ZeroBottom : PySem.W.subIn K (.ref C_ZeroBottom) (.type "BaseException") = some true)
    (hb_ZeroBottom : PySem.W.hasDictIn K C_ZeroBottom = true)
    (tb_ZeroBottom : PySem.W.typeIn K (.ref C_ZeroBottom) = some (.type "type"))
    (g_BadShape : PySem.W.nsIn K mainGlobals "BadShape" = some (some (.ref C_BadShape)))
    (eb_BadShape : PySem.W.subIn K (.ref C_BadShape) (.type "BaseException") = some true)
    (hb_BadShape : PySem.W.hasDictIn K C_BadShape = true)
    (tb_BadShape : PySem.W.typeIn K (.ref C_BadShape) = some (.type "type"))
    (g_FlatLattice : PySem.W.nsIn K mainGlobals "FlatLattice" = some (some (.ref C_FlatLattice)))
    (eb_FlatLattice : PySem.W.subIn K (.ref C_FlatLattice) (.type "BaseException") = some true)
    (hb_FlatLattice : PySem.W.hasDictIn K C_FlatLattice = true)
    (tb_FlatLattice : PySem.W.typeIn K (.ref C_FlatLattice) = some (.type "type"))
    (g_NothingToUndo : PySem.W.nsIn K mainGlobals "NothingToUndo" = some (some (.ref C_NothingToUndo)))
    (eb_NothingToUndo : PySem.W.subIn K (.ref C_NothingToUndo) (.type "BaseException") = some true)
    (hb_NothingToUndo : PySem.W.hasDictIn K C_NothingToUndo = true)
    (tb_NothingToUndo : PySem.W.typeIn K (.ref C_NothingToUndo) = some (.type "type"))
    (g_NothingToRedo : PySem.W.nsIn K mainGlobals "NothingToRedo" = some (some (.ref C_NothingToRedo)))
    (eb_NothingToRedo : PySem.W.subIn K (.ref C_NothingToRedo) (.type "BaseException") = some true)
    (hb_NothingToRedo : PySem.W.hasDictIn K C_NothingToRedo = true)
    (tb_NothingToRedo : PySem.W.typeIn K (.ref C_NothingToRedo) = some (.type "type"))
    (g_BadLine : PySem.W.nsIn K mainGlobals "BadLine" = some (some (.ref C_BadLine)))
    (eb_BadLine : PySem.W.subIn K (.ref C_BadLine) (.type "BaseException") = some true)
    (hb_BadLine : PySem.W.hasDictIn K C_BadLine = true)
    (tb_BadLine : PySem.W.typeIn K (.ref C_BadLine) = some (.type "type"))
    (g_BadRest : PySem.W.nsIn K mainGlobals "BadRest" = some (some (.ref C_BadRest)))
    (eb_BadRest : PySem.W.subIn K (.ref C_BadRest) (.type "BaseException") = some true)
    (hb_BadRest : PySem.W.hasDictIn K C_BadRest = true)
    (tb_BadRest : PySem.W.typeIn K (.ref C_BadRest) = some (.type "type"))
    (g_OffWheel : PySem.W.nsIn K mainGlobals "OffWheel" = some (some (.ref C_OffWheel)))
    (eb_OffWheel : PySem.W.subIn K (.ref C_OffWheel) (.type "BaseException") = some true)
    (hb_OffWheel : PySem.W.hasDictIn K C_OffWheel = true)
    (tb_OffWheel : PySem.W.typeIn K (.ref C_OffWheel) = some (.type "type"))
    (g_Wasteful : PySem.W.nsIn K mainGlobals "Wasteful" = some (some (.ref C_Wasteful)))
    (eb_Wasteful : PySem.W.subIn K (.ref C_Wasteful) (.type "BaseException") = some true)
    (hb_Wasteful : PySem.W.hasDictIn K C_Wasteful = true)
    (tb_Wasteful : PySem.W.typeIn K (.ref C_Wasteful) = some (.type "type"))
    (g_CutsOff : PySem.W.nsIn K mainGlobals "CutsOff" = some (some (.ref C_CutsOff)))
    (eb_CutsOff : PySem.W.subIn K (.ref C_CutsOff) (.type "BaseException") = some true)
    (hb_CutsOff : PySem.W.hasDictIn K C_CutsOff = true)
    (tb_CutsOff : PySem.W.typeIn K (.ref C_CutsOff) = some (.type "type"))
    (g_BadOrder : PySem.W.nsIn K mainGlobals "BadOrder" = some (some (.ref C_BadOrder)))
    (eb_BadOrder : PySem.W.subIn K (.ref C_BadOrder) (.type "BaseException") = some true)
    (hb_BadOrder : PySem.W.hasDictIn K C_BadOrder = true)
    (tb_BadOrder : PySem.W.typeIn K (.ref C_BadOrder) = some (.type "type"))
    (g_NotTwoSlopes : PySem.W.nsIn K mainGlobals "NotTwoSlopes" = some (some (.ref C_NotTwoSlopes)))
    (eb_NotTwoSlopes : PySem.W.subIn K (.ref C_NotTwoSlopes) (.type "BaseException") = some true)
    (hb_NotTwoSlopes : PySem.W.hasDictIn K C_NotTwoSlopes = true)
    (tb_NotTwoSlopes : PySem.W.typeIn K (.ref C_NotTwoSlopes) = some (.type "type"))
    (g_NoWalk : PySem.W.nsIn K mainGlobals "NoWalk" = some (some (.ref C_NoWalk)))
    (eb_NoWalk : PySem.W.subIn K (.ref C_NoWalk) (.type "BaseException") = some true)
    (hb_NoWalk : PySem.W.hasDictIn K C_NoWalk = true)
    (tb_NoWalk : PySem.W.typeIn K (.ref C_NoWalk) = some (.type "type"))
    (g_OffRest : PySem.W.nsIn K mainGlobals "OffRest" = some (some (.ref C_OffRest)))
    (eb_OffRest : PySem.W.subIn K (.ref C_OffRest) (.type "BaseException") = some true)
    (hb_OffRest : PySem.W.hasDictIn K C_OffRest = true)
    (tb_OffRest : PySem.W.typeIn K (.ref C_OffRest) = some (.type "type"))
    (g_CheaperColumn : PySem.W.nsIn K mainGlobals "CheaperColumn" = some (some (.ref C_CheaperColumn)))
    (eb_CheaperColumn : PySem.W.subIn K (.ref C_CheaperColumn) (.type "BaseException") = some true)
    (hb_CheaperColumn : PySem.W.hasDictIn K C_CheaperColumn = true)
    (tb_CheaperColumn : PySem.W.typeIn K (.ref C_CheaperColumn) = some (.type "type"))
    (g_BadWord : PySem.W.nsIn K mainGlobals "BadWord" = some (some (.ref C_BadWord)))
    (eb_BadWord : PySem.W.subIn K (.ref C_BadWord) (.type "BaseException") = some true)
    (hb_BadWord : PySem.W.hasDictIn K C_BadWord = true)
    (tb_BadWord : PySem.W.typeIn K (.ref C_BadWord) = some (.type "type"))
    (g_BadText : PySem.W.nsIn K mainGlobals "BadText" = some (some (.ref C_BadText)))
    (eb_BadText : PySem.W.subIn K (.ref C_BadText) (.type "BaseException") = some true)
    (hb_BadText : PySem.W.hasDictIn K C_BadText = true)
    (tb_BadText : PySem.W.typeIn K (.ref C_BadText) = some (.type "type"))
    (g_TakenName : PySem.W.nsIn K mainGlobals "TakenName" = some (some (.ref C_TakenName)))
    (eb_TakenName : PySem.W.subIn K (.ref C_TakenName) (.type "BaseException") = some true)
    (hb_TakenName : PySem.W.hasDictIn K C_TakenName = true)
    (tb_TakenName : PySem.W.typeIn K (.ref C_TakenName) = some (.type "type"))
    (g_UnknownName : PySem.W.nsIn K mainGlobals "UnknownName" = some (some (.ref C_UnknownName)))
    (eb_UnknownName : PySem.W.subIn K (.ref C_UnknownName) (.type "BaseException") = some true)
    (hb_UnknownName : PySem.W.hasDictIn K C_UnknownName = true)
    (tb_UnknownName : PySem.W.typeIn K (.ref C_UnknownName) = some (.type "type"))
    (g_StillUsed : PySem.W.nsIn K mainGlobals "StillUsed" = some (some (.ref C_StillUsed)))
    (eb_StillUsed : PySem.W.subIn K (.ref C_StillUsed) (.type "BaseException") = some true)
    (hb_StillUsed : PySem.W.hasDictIn K C_StillUsed = true)
    (tb_StillUsed : PySem.W.typeIn K (.ref C_StillUsed) = some (.type "type"))
    (g_TooFine : PySem.W.nsIn K mainGlobals "TooFine" = some (some (.ref C_TooFine)))
    (eb_TooFine : PySem.W.subIn K (.ref C_TooFine) (.type "BaseException") = some true)
    (hb_TooFine : PySem.W.hasDictIn K C_TooFine = true)
    (tb_TooFine : PySem.W.typeIn K (.ref C_TooFine) = some (.type "type"))
    (xL_BadWord : K.lookup C_BadWord = some (excClassObj nm_BadWord q_BadWord C_BadWord N_BadWord bs_BadWord bm_BadWord true sn_BadWord sub_BadWord ab_BadWord col_BadWord dd_BadWord m0_BadWord m1_BadWord m2_BadWord m3_BadWord m5_BadWord "ValueError.__new__"))
    (rb_BadWord : PySem.HandSPX.refsVE bm_BadWord = true)
    (sa_BadWord : PySem.W.findIn K (.ref C_BadWord) "__setattr__" = some (some (.builtin "object.__setattr__")))
    (ga_BadWord : PySem.W.findIn K (.ref C_BadWord) "__getattribute__" = some (some (.builtin "BaseException.__getattribute__")))
    (gg_BadWord : PySem.W.findIn K (.ref C_BadWord) "__getattr__" = some none)
    (eC_BadWord : PySem.W.subIn K (.ref C_BadWord) (.type "BaseException") = some true)
    (tC_BadWord : PySem.W.typeIn K (.ref C_BadWord) = some (.type "type"))
    (kC_BadWord : PySem.W.keepIn K (.ref C_BadWord) = true)
    (hC_BadWord : PySem.W.hasDictIn K C_BadWord = true)
    (ca_BadWord : PySem.W.findIn K (.ref C_BadWord) "__class__" = some (some (.builtin "object.__class__")))
    (mo_BadWord : PySem.W.mroIn K C_BadWord (.type "object") = some true)
    (ve_BadWord : PySem.W.subIn K (.ref C_BadWord) (.type "ValueError") = some true)
    (sl_BadWord : PySem.W.subIn K (.ref C_BadWord) (.ref C_BadWord) = some true)
    (iC_BadWord : PySem.W.findIn K (.ref C_BadWord) "__init__" = some (some (.ref i_BadWord)))
    (tI_BadWord : PySem.W.typeIn K (.ref i_BadWord) = some (.type "function"))
    (no_BadWord_word : PySem.W.findIn K (.ref C_BadWord) "word" = some none)
    (li_BadWord : K.lookup i_BadWord = some ⟨oc_iBadWord, od_iBadWord, .func (PySem.W.fnOf "__init__" "BadWord.__init__" (defArgs (inClass (top 18) 0)) (defBody (inClass (top 18) 0)) (defScope (inClass (top 18) 0)) .none kV_iBadWord dc_iBadWord pm_iBadWord an_iBadWord cd_iBadWord ct_iBadWord), sl_iBadWord⟩)
    (ci_BadWord : PySem.W.codeIn K cd_iBadWord "BadWord.__init__" = true)
    (sb_BadWord_CutError : PySem.W.subIn K (.ref C_BadWord) (.ref C_CutError) = some true)
    (sb_BadWord_ZeroBottom : PySem.W.subIn K (.ref C_BadWord) (.ref C_ZeroBottom) = some false)
    (sb_BadWord_BadShape : PySem.W.subIn K (.ref C_BadWord) (.ref C_BadShape) = some false)
    (sb_BadWord_FlatLattice : PySem.W.subIn K (.ref C_BadWord) (.ref C_FlatLattice) = some false)
    (sb_BadWord_NothingToUndo : PySem.W.subIn K (.ref C_BadWord) (.ref C_NothingToUndo) = some false)
    (sb_BadWord_NothingToRedo : PySem.W.subIn K (.ref C_BadWord) (.ref C_NothingToRedo) = some false)
    (sb_BadWord_BadLine : PySem.W.subIn K (.ref C_BadWord) (.ref C_BadLine) = some false)
    (sb_BadWord_BadRest : PySem.W.subIn K (.ref C_BadWord) (.ref C_BadRest) = some false)
    (sb_BadWord_OffWheel : PySem.W.subIn K (.ref C_BadWord) (.ref C_OffWheel) = some false)
    (sb_BadWord_Wasteful : PySem.W.subIn K (.ref C_BadWord) (.ref C_Wasteful) = some false)
    (sb_BadWord_CutsOff : PySem.W.subIn K (.ref C_BadWord) (.ref C_CutsOff) = some false)
    (sb_BadWord_BadOrder : PySem.W.subIn K (.ref C_BadWord) (.ref C_BadOrder) = some false)
    (sb_BadWord_NotTwoSlopes : PySem.W.subIn K (.ref C_BadWord) (.ref C_NotTwoSlopes) = some false)
    (sb_BadWord_NoWalk : PySem.W.subIn K (.ref C_BadWord) (.ref C_NoWalk) = some false)
    (sb_BadWord_OffRest : PySem.W.subIn K (.ref C_BadWord) (.ref C_OffRest) = some false)
    (sb_BadWord_CheaperColumn : PySem.W.subIn K (.ref C_BadWord) (.ref C_CheaperColumn) = some false)
    (sb_BadWord_BadWord : PySem.W.subIn K (.ref C_BadWord) (.ref C_BadWord) = some true)
    (sb_BadWord_BadText : PySem.W.subIn K (.ref C_BadWord) (.ref C_BadText) = some false)
    (sb_BadWord_TakenName : PySem.W.subIn K (.ref C_BadWord) (.ref C_TakenName) = some false)
    (sb_BadWord_UnknownName : PySem.W.subIn K (.ref C_BadWord) (.ref C_UnknownName) = some false)
    (sb_BadWord_StillUsed : PySem.W.subIn K (.ref C_BadWord) (.ref C_StillUsed) = some false)
    (sb_BadWord_TooFine : PySem.W.subIn K (.ref C_BadWord) (.ref C_TooFine) = some false)
    (ogn : PySem.W.specialIn K (.builtin "object.__class__") "__get__" = some (some (.builtin "getset_descriptor.__get__")))
    (otk : PySem.W.takesIn K (.builtin "object.__class__") = some true)
    (a_gcd : PySem.W.nsIn K mainGlobals "gcd" = some (some (.builtin "math.gcd")))
    (n_len : PySem.W.nsIn K mainGlobals "len" = some none)
    (n_int : PySem.W.nsIn K mainGlobals "int" = some none)
    (n_str : PySem.W.nsIn K mainGlobals "str" = some none)
    (n_abs : PySem.W.nsIn K mainGlobals "abs" = some none)
    (n_max : PySem.W.nsIn K mainGlobals "max" = some none)
    (n_min : PySem.W.nsIn K mainGlobals "min" = some none)
    (n_repr : PySem.W.nsIn K mainGlobals "repr" = some none)
    (n_tuple : PySem.W.nsIn K mainGlobals "tuple" = some none)
    (n_list : PySem.W.nsIn K mainGlobals "list" = some none)
    (n_range : PySem.W.nsIn K mainGlobals "range" = some none)
    (n_isinstance : PySem.W.nsIn K mainGlobals "isinstance" = some none)
    (n_bool : PySem.W.nsIn K mainGlobals "bool" = some none)
    (n_ValueError : PySem.W.nsIn K mainGlobals "ValueError" = some none)
    : PgOk P w K mg (cmf C_CutError C_ZeroBottom C_BadShape C_FlatLattice C_NothingToUndo C_NothingToRedo C_BadLine C_BadRest C_OffWheel C_Wasteful C_CutsOff C_BadOrder C_NotTwoSlopes C_NoWalk C_OffRest C_CheaperColumn C_BadWord C_BadText C_TakenName C_UnknownName C_StillUsed C_TooFine) gl pg ∧ DefAt K mg gl d_law fa (PySem.W.fnOf "law" "law" (defArgs (top 47)) (defBody (top 47)) (defScope (top 47)) .none kV_law dc_law pm_law an_law cd_law ct_law) ["script"] := by
  have e0 : fa = f_law := by cases hfa.symm.trans (PySem.W.mg_of X G a_law); rfl
  have D_parse_number : DefAt K mg gl d_parse_number f_parse_number _ ["word"] := ⟨PySem.W.mg_of X G a_parse_number, k_parse_number, (fun_mk (st := top 25) l_parse_number c_parse_number k_parse_number).binds (fun _ _ _ _ _ _ us hl => match us, hl with | [_], _ => rfl), rfl, _, _, _, _, _, _, _, _, _, _, _, _, _, _, _, rfl, l_parse_number, c_parse_number, ⟨rfl, rfl, rfl, by decide +kernel, rfl, by decide +kernel, by decide +kernel⟩, by decide +kernel⟩
  have D_read_ratio : DefAt K mg gl d_read_ratio f_read_ratio _ ["word"] := ⟨PySem.W.mg_of X G a_read_ratio, k_read_ratio, (fun_mk (st := top 26) l_read_ratio c_read_ratio k_read_ratio).binds (fun _ _ _ _ _ _ us hl => match us, hl with | [_], _ => rfl), rfl, _, _, _, _, _, _, _, _, _, _, _, _, _, _, _, rfl, l_read_ratio, c_read_ratio, ⟨rfl, rfl, rfl, by decide +kernel, rfl, by decide +kernel, by decide +kernel⟩, by decide +kernel⟩
  have D_parse_ratio : DefAt K mg gl d_parse_ratio f_parse_ratio _ ["word"] := ⟨PySem.W.mg_of X G a_parse_ratio, k_parse_ratio, (fun_mk (st := top 27) l_parse_ratio c_parse_ratio k_parse_ratio).binds (fun _ _ _ _ _ _ us hl => match us, hl with | [_], _ => rfl), rfl, _, _, _, _, _, _, _, _, _, _, _, _, _, _, _, rfl, l_parse_ratio, c_parse_ratio, ⟨rfl, rfl, rfl, by decide +kernel, rfl, by decide +kernel, by decide +kernel⟩, by decide +kernel⟩
  have D_format_ratio : DefAt K mg gl d_format_ratio f_format_ratio _ ["value"] := ⟨PySem.W.mg_of X G a_format_ratio, k_format_ratio, (fun_mk (st := top 28) l_format_ratio c_format_ratio k_format_ratio).binds (fun _ _ _ _ _ _ us hl => match us, hl with | [_], _ => rfl), rfl, _, _, _, _, _, _, _, _, _, _, _, _, _, _, _, rfl, l_format_ratio, c_format_ratio, ⟨rfl, rfl, rfl, by decide +kernel, rfl, by decide +kernel, by decide +kernel⟩, by decide +kernel⟩
  have D__law_is : DefAt K mg gl d__law_is f__law_is _ ["told", "due"] := ⟨PySem.W.mg_of X G a__law_is, k__law_is, (fun_mk (st := top 30) l__law_is c__law_is k__law_is).binds (fun _ _ _ _ _ _ us hl => match us, hl with | [_, _], _ => rfl), rfl, _, _, _, _, _, _, _, _, _, _, _, _, _, _, _, rfl, l__law_is, c__law_is, ⟨rfl, rfl, rfl, by decide +kernel, rfl, by decide +kernel, by decide +kernel⟩, by decide +kernel⟩
  have D__law_whole : DefAt K mg gl d__law_whole f__law_whole _ ["value"] := ⟨PySem.W.mg_of X G a__law_whole, k__law_whole, (fun_mk (st := top 31) l__law_whole c__law_whole k__law_whole).binds (fun _ _ _ _ _ _ us hl => match us, hl with | [_], _ => rfl), rfl, _, _, _, _, _, _, _, _, _, _, _, _, _, _, _, rfl, l__law_whole, c__law_whole, ⟨rfl, rfl, rfl, by decide +kernel, rfl, by decide +kernel, by decide +kernel⟩, by decide +kernel⟩
  have D__law_cell : DefAt K mg gl d__law_cell f__law_cell _ ["script", "k"] := ⟨PySem.W.mg_of X G a__law_cell, k__law_cell, (fun_mk (st := top 32) l__law_cell c__law_cell k__law_cell).binds (fun _ _ _ _ _ _ us hl => match us, hl with | [_, _], _ => rfl), rfl, _, _, _, _, _, _, _, _, _, _, _, _, _, _, _, rfl, l__law_cell, c__law_cell, ⟨rfl, rfl, rfl, by decide +kernel, rfl, by decide +kernel, by decide +kernel⟩, by decide +kernel⟩
  have D__law_digits : DefAt K mg gl d__law_digits f__law_digits _ ["cell", "sizes"] := ⟨PySem.W.mg_of X G a__law_digits, k__law_digits, (fun_mk (st := top 33) l__law_digits c__law_digits k__law_digits).binds (fun _ _ _ _ _ _ us hl => match us, hl with | [_, _], _ => rfl), rfl, _, _, _, _, _, _, _, _, _, _, _, _, _, _, _, rfl, l__law_digits, c__law_digits, ⟨rfl, rfl, rfl, by decide +kernel, rfl, by decide +kernel, by decide +kernel⟩, by decide +kernel⟩
  have D__law_gcd : DefAt K mg gl d__law_gcd f__law_gcd _ ["one", "two"] := ⟨PySem.W.mg_of X G a__law_gcd, k__law_gcd, (fun_mk (st := top 34) l__law_gcd c__law_gcd k__law_gcd).binds (fun _ _ _ _ _ _ us hl => match us, hl with | [_, _], _ => rfl), rfl, _, _, _, _, _, _, _, _, _, _, _, _, _, _, _, rfl, l__law_gcd, c__law_gcd, ⟨rfl, rfl, rfl, by decide +kernel, rfl, by decide +kernel, by decide +kernel⟩, by decide +kernel⟩
  have D__law_ratio : DefAt K mg gl d__law_ratio f__law_ratio _ ["top", "bottom"] := ⟨PySem.W.mg_of X G a__law_ratio, k__law_ratio, (fun_mk (st := top 35) l__law_ratio c__law_ratio k__law_ratio).binds (fun _ _ _ _ _ _ us hl => match us, hl with | [_, _], _ => rfl), rfl, _, _, _, _, _, _, _, _, _, _, _, _, _, _, _, rfl, l__law_ratio, c__law_ratio, ⟨rfl, rfl, rfl, by decide +kernel, rfl, by decide +kernel, by decide +kernel⟩, by decide +kernel⟩
  have D__law_is_ratio : DefAt K mg gl d__law_is_ratio f__law_is_ratio _ ["value"] := ⟨PySem.W.mg_of X G a__law_is_ratio, k__law_is_ratio, (fun_mk (st := top 36) l__law_is_ratio c__law_is_ratio k__law_is_ratio).binds (fun _ _ _ _ _ _ us hl => match us, hl with | [_], _ => rfl), rfl, _, _, _, _, _, _, _, _, _, _, _, _, _, _, _, rfl, l__law_is_ratio, c__law_is_ratio, ⟨rfl, rfl, rfl, by decide +kernel, rfl, by decide +kernel, by decide +kernel⟩, by decide +kernel⟩
  have D__law_joined : DefAt K mg gl d__law_joined f__law_joined _ ["row"] := ⟨PySem.W.mg_of X G a__law_joined, k__law_joined, (fun_mk (st := top 37) l__law_joined c__law_joined k__law_joined).binds (fun _ _ _ _ _ _ us hl => match us, hl with | [_], _ => rfl), rfl, _, _, _, _, _, _, _, _, _, _, _, _, _, _, _, rfl, l__law_joined, c__law_joined, ⟨rfl, rfl, rfl, by decide +kernel, rfl, by decide +kernel, by decide +kernel⟩, by decide +kernel⟩
  have D__law_fraction : DefAt K mg gl d__law_fraction f__law_fraction _ ["script", "at"] := ⟨PySem.W.mg_of X G a__law_fraction, k__law_fraction, (fun_mk (st := top 38) l__law_fraction c__law_fraction k__law_fraction).binds (fun _ _ _ _ _ _ us hl => match us, hl with | [_, _], _ => rfl), rfl, _, _, _, _, _, _, _, _, _, _, _, _, _, _, _, rfl, l__law_fraction, c__law_fraction, ⟨rfl, rfl, rfl, by decide +kernel, rfl, by decide +kernel, by decide +kernel⟩, by decide +kernel⟩
  have D__law_written : DefAt K mg gl d__law_written f__law_written _ ["value"] := ⟨PySem.W.mg_of X G a__law_written, k__law_written, (fun_mk (st := top 39) l__law_written c__law_written k__law_written).binds (fun _ _ _ _ _ _ us hl => match us, hl with | [_], _ => rfl), rfl, _, _, _, _, _, _, _, _, _, _, _, _, _, _, _, rfl, l__law_written, c__law_written, ⟨rfl, rfl, rfl, by decide +kernel, rfl, by decide +kernel, by decide +kernel⟩, by decide +kernel⟩
  have D__law_number_word : DefAt K mg gl d__law_number_word f__law_number_word _ ["text"] := ⟨PySem.W.mg_of X G a__law_number_word, k__law_number_word, (fun_mk (st := top 40) l__law_number_word c__law_number_word k__law_number_word).binds (fun _ _ _ _ _ _ us hl => match us, hl with | [_], _ => rfl), rfl, _, _, _, _, _, _, _, _, _, _, _, _, _, _, _, rfl, l__law_number_word, c__law_number_word, ⟨rfl, rfl, rfl, by decide +kernel, rfl, by decide +kernel, by decide +kernel⟩, by decide +kernel⟩
  have D__law_fraction_word : DefAt K mg gl d__law_fraction_word f__law_fraction_word _ ["text"] := ⟨PySem.W.mg_of X G a__law_fraction_word, k__law_fraction_word, (fun_mk (st := top 41) l__law_fraction_word c__law_fraction_word k__law_fraction_word).binds (fun _ _ _ _ _ _ us hl => match us, hl with | [_], _ => rfl), rfl, _, _, _, _, _, _, _, _, _, _, _, _, _, _, _, rfl, l__law_fraction_word, c__law_fraction_word, ⟨rfl, rfl, rfl, by decide +kernel, rfl, by decide +kernel, by decide +kernel⟩, by decide +kernel⟩
  have D__law_sign : DefAt K mg gl d__law_sign f__law_sign _ ["number"] := ⟨PySem.W.mg_of X G a__law_sign, k__law_sign, (fun_mk (st := top 42) l__law_sign c__law_sign k__law_sign).binds (fun _ _ _ _ _ _ us hl => match us, hl with | [_], _ => rfl), rfl, _, _, _, _, _, _, _, _, _, _, _, _, _, _, _, rfl, l__law_sign, c__law_sign, ⟨rfl, rfl, rfl, by decide +kernel, rfl, by decide +kernel, by decide +kernel⟩, by decide +kernel⟩
  have D__law_changed : DefAt K mg gl d__law_changed f__law_changed _ ["value", "row"] := ⟨PySem.W.mg_of X G a__law_changed, k__law_changed, (fun_mk (st := top 43) l__law_changed c__law_changed k__law_changed).binds (fun _ _ _ _ _ _ us hl => match us, hl with | [_, _], _ => rfl), rfl, _, _, _, _, _, _, _, _, _, _, _, _, _, _, _, rfl, l__law_changed, c__law_changed, ⟨rfl, rfl, rfl, by decide +kernel, rfl, by decide +kernel, by decide +kernel⟩, by decide +kernel⟩
  have D__law_pool_word : DefAt K mg gl d__law_pool_word f__law_pool_word _ ["cell"] := ⟨PySem.W.mg_of X G a__law_pool_word, k__law_pool_word, (fun_mk (st := top 44) l__law_pool_word c__law_pool_word k__law_pool_word).binds (fun _ _ _ _ _ _ us hl => match us, hl with | [_], _ => rfl), rfl, _, _, _, _, _, _, _, _, _, _, _, _, _, _, _, rfl, l__law_pool_word, c__law_pool_word, ⟨rfl, rfl, rfl, by decide +kernel, rfl, by decide +kernel, by decide +kernel⟩, by decide +kernel⟩
  have D__law_agrees : DefAt K mg gl d__law_agrees f__law_agrees _ ["word"] := ⟨PySem.W.mg_of X G a__law_agrees, k__law_agrees, (fun_mk (st := top 45) l__law_agrees c__law_agrees k__law_agrees).binds (fun _ _ _ _ _ _ us hl => match us, hl with | [_], _ => rfl), rfl, _, _, _, _, _, _, _, _, _, _, _, _, _, _, _, rfl, l__law_agrees, c__law_agrees, ⟨rfl, rfl, rfl, by decide +kernel, rfl, by decide +kernel, by decide +kernel⟩, by decide +kernel⟩
  have D__law_there_and_back : DefAt K mg gl d__law_there_and_back f__law_there_and_back _ ["value"] := ⟨PySem.W.mg_of X G a__law_there_and_back, k__law_there_and_back, (fun_mk (st := top 46) l__law_there_and_back c__law_there_and_back k__law_there_and_back).binds (fun _ _ _ _ _ _ us hl => match us, hl with | [_], _ => rfl), rfl, _, _, _, _, _, _, _, _, _, _, _, _, _, _, _, rfl, l__law_there_and_back, c__law_there_and_back, ⟨rfl, rfl, rfl, by decide +kernel, rfl, by decide +kernel, by decide +kernel⟩, by decide +kernel⟩
  have D_law : DefAt K mg gl d_law f_law _ ["script"] := ⟨PySem.W.mg_of X G a_law, k_law, (fun_mk (st := top 47) l_law c_law k_law).binds (fun _ _ _ _ _ _ us hl => match us, hl with | [_], _ => rfl), rfl, _, _, _, _, _, _, _, _, _, _, _, _, _, _, _, rfl, l_law, c_law, ⟨rfl, rfl, rfl, by decide +kernel, rfl, by decide +kernel, by decide +kernel⟩, by decide +kernel⟩
  have T_BadWord : OexC K C_BadWord := ⟨⟨_, _, _, _, _, _, _, _, _, _, _, _, _, _, _, xL_BadWord, rb_BadWord⟩, sa_BadWord, eC_BadWord, tC_BadWord, kC_BadWord⟩
  have I_BadWord : ∀ base, FnP P w K mg base 1 i_BadWord _ ["self", "word"] (spI ["word"] C_BadWord) := fun base => ini1 (f := "word") (y := "word") li_BadWord ci_BadWord ⟨rfl, rfl, rfl, by decide +kernel, rfl, by decide +kernel, by decide +kernel⟩ (by decide +kernel) (by decide +kernel) (by decide) (by decide) T_BadWord no_BadWord_word base
  have Y_BadWord : ∀ cf b d, XCls K (cmf C_CutError C_ZeroBottom C_BadShape C_FlatLattice C_NothingToUndo C_NothingToRedo C_BadLine C_BadRest C_OffWheel C_Wasteful C_CutsOff C_BadOrder C_NotTwoSlopes C_NoWalk C_OffRest C_CheaperColumn C_BadWord C_BadText C_TakenName C_UnknownName C_StillUsed C_TooFine) (pg.ctx cf b d) (gl.cs.map (·.2)) 16 := by
    intro cf b d
    refine ⟨⟨ga_BadWord, gg_BadWord, eC_BadWord, hC_BadWord, ca_BadWord, ogn, otk, mo_BadWord⟩, ⟨ga_BadWord, gg_BadWord, eC_BadWord, hC_BadWord⟩, fun f hf => ?_, fun c hc => ?_, fun c hc => ?_, kit_ve ve_BadWord⟩
    · have hf : f ∈ [("word" : Str)] := hf
      simp only [List.mem_cons, List.not_mem_nil, or_false] at hf
      subst hf
      exact no_BadWord_word
    · have hc : c ∈ [0, 1, 2, 3, 4, 5, 6, 7, 8, 9, 10, 11, 12, 13, 14, 15, 16, 17, 18, 19, 20, 21] := hc
      simp only [List.mem_cons, List.not_mem_nil, or_false] at hc
      rcases hc with rfl | rfl | rfl | rfl | rfl | rfl | rfl | rfl | rfl | rfl | rfl | rfl | rfl | rfl | rfl | rfl | rfl | rfl | rfl | rfl | rfl | rfl
      · exact kit_ref hb_CutError tb_CutError sb_BadWord_CutError sl_BadWord
      · exact kit_ref hb_ZeroBottom tb_ZeroBottom sb_BadWord_ZeroBottom sl_BadWord
      · exact kit_ref hb_BadShape tb_BadShape sb_BadWord_BadShape sl_BadWord
      · exact kit_ref hb_FlatLattice tb_FlatLattice sb_BadWord_FlatLattice sl_BadWord
      · exact kit_ref hb_NothingToUndo tb_NothingToUndo sb_BadWord_NothingToUndo sl_BadWord
      · exact kit_ref hb_NothingToRedo tb_NothingToRedo sb_BadWord_NothingToRedo sl_BadWord
      · exact kit_ref hb_BadLine tb_BadLine sb_BadWord_BadLine sl_BadWord
      · exact kit_ref hb_BadRest tb_BadRest sb_BadWord_BadRest sl_BadWord
      · exact kit_ref hb_OffWheel tb_OffWheel sb_BadWord_OffWheel sl_BadWord
      · exact kit_ref hb_Wasteful tb_Wasteful sb_BadWord_Wasteful sl_BadWord
      · exact kit_ref hb_CutsOff tb_CutsOff sb_BadWord_CutsOff sl_BadWord
      · exact kit_ref hb_BadOrder tb_BadOrder sb_BadWord_BadOrder sl_BadWord
      · exact kit_ref hb_NotTwoSlopes tb_NotTwoSlopes sb_BadWord_NotTwoSlopes sl_BadWord
      · exact kit_ref hb_NoWalk tb_NoWalk sb_BadWord_NoWalk sl_BadWord
      · exact kit_ref hb_OffRest tb_OffRest sb_BadWord_OffRest sl_BadWord
      · exact kit_ref hb_CheaperColumn tb_CheaperColumn sb_BadWord_CheaperColumn sl_BadWord
      · exact kit_ref hb_BadWord tb_BadWord sb_BadWord_BadWord sl_BadWord
      · exact kit_ref hb_BadText tb_BadText sb_BadWord_BadText sl_BadWord
      · exact kit_ref hb_TakenName tb_TakenName sb_BadWord_TakenName sl_BadWord
      · exact kit_ref hb_UnknownName tb_UnknownName sb_BadWord_UnknownName sl_BadWord
      · exact kit_ref hb_StillUsed tb_StillUsed sb_BadWord_StillUsed sl_BadWord
      · exact kit_ref hb_TooFine tb_TooFine sb_BadWord_TooFine sl_BadWord
    · have hc : c ∈ [0, 1, 2, 3, 4, 5, 6, 7, 8, 9, 10, 11, 12, 13, 14, 15, 16, 17, 18, 19, 20, 21] := hc
      simp only [List.mem_cons, List.not_mem_nil, or_false] at hc
      rcases hc with rfl | rfl | rfl | rfl | rfl | rfl | rfl | rfl | rfl | rfl | rfl | rfl | rfl | rfl | rfl | rfl | rfl | rfl | rfl | rfl | rfl | rfl
      · exact PySem.W.exm_ref eb_CutError hb_CutError tb_CutError sb_BadWord_CutError
      · exact PySem.W.exm_ref eb_ZeroBottom hb_ZeroBottom tb_ZeroBottom sb_BadWord_ZeroBottom
      · exact PySem.W.exm_ref eb_BadShape hb_BadShape tb_BadShape sb_BadWord_BadShape
      · exact PySem.W.exm_ref eb_FlatLattice hb_FlatLattice tb_FlatLattice sb_BadWord_FlatLattice
      · exact PySem.W.exm_ref eb_NothingToUndo hb_NothingToUndo tb_NothingToUndo sb_BadWord_NothingToUndo
      · exact PySem.W.exm_ref eb_NothingToRedo hb_NothingToRedo tb_NothingToRedo sb_BadWord_NothingToRedo
      · exact PySem.W.exm_ref eb_BadLine hb_BadLine tb_BadLine sb_BadWord_BadLine
      · exact PySem.W.exm_ref eb_BadRest hb_BadRest tb_BadRest sb_BadWord_BadRest
      · exact PySem.W.exm_ref eb_OffWheel hb_OffWheel tb_OffWheel sb_BadWord_OffWheel
      · exact PySem.W.exm_ref eb_Wasteful hb_Wasteful tb_Wasteful sb_BadWord_Wasteful
      · exact PySem.W.exm_ref eb_CutsOff hb_CutsOff tb_CutsOff sb_BadWord_CutsOff
      · exact PySem.W.exm_ref eb_BadOrder hb_BadOrder tb_BadOrder sb_BadWord_BadOrder
      · exact PySem.W.exm_ref eb_NotTwoSlopes hb_NotTwoSlopes tb_NotTwoSlopes sb_BadWord_NotTwoSlopes
      · exact PySem.W.exm_ref eb_NoWalk hb_NoWalk tb_NoWalk sb_BadWord_NoWalk
      · exact PySem.W.exm_ref eb_OffRest hb_OffRest tb_OffRest sb_BadWord_OffRest
      · exact PySem.W.exm_ref eb_CheaperColumn hb_CheaperColumn tb_CheaperColumn sb_BadWord_CheaperColumn
      · exact PySem.W.exm_ref eb_BadWord hb_BadWord tb_BadWord sb_BadWord_BadWord
      · exact PySem.W.exm_ref eb_BadText hb_BadText tb_BadText sb_BadWord_BadText
      · exact PySem.W.exm_ref eb_TakenName hb_TakenName tb_TakenName sb_BadWord_TakenName
      · exact PySem.W.exm_ref eb_UnknownName hb_UnknownName tb_UnknownName sb_BadWord_UnknownName
      · exact PySem.W.exm_ref eb_StillUsed hb_StillUsed tb_StillUsed sb_BadWord_StillUsed
      · exact PySem.W.exm_ref eb_TooFine hb_TooFine tb_TooFine sb_BadWord_TooFine
  refine ⟨⟨fun d hd => ?_, fun s f hs => ?_, fun s hs => ?_, fun _ => PySem.W.mg_of X G a_gcd, fun s c hs => ?_, fun c hc => ?_, fun c hc => ?_, fun s k hs => by simp [gl] at hs⟩, by rw [e0]; exact D_law⟩
  · have hd : d ∈ [d_parse_number, d_read_ratio, d_parse_ratio, d_format_ratio, d__law_is, d__law_whole, d__law_cell, d__law_digits, d__law_gcd, d__law_ratio, d__law_is_ratio, d__law_joined, d__law_fraction, d__law_written, d__law_number_word, d__law_fraction_word, d__law_sign, d__law_changed, d__law_pool_word, d__law_agrees, d__law_there_and_back, d_law] := hd
    simp only [List.mem_cons, List.not_mem_nil, or_false] at hd
    rcases hd with rfl | rfl | rfl | rfl | rfl | rfl | rfl | rfl | rfl | rfl | rfl | rfl | rfl | rfl | rfl | rfl | rfl | rfl | rfl | rfl | rfl | rfl
    · exact ⟨_, _, _, D_parse_number⟩
    · exact ⟨_, _, _, D_read_ratio⟩
    · exact ⟨_, _, _, D_parse_ratio⟩
    · exact ⟨_, _, _, D_format_ratio⟩
    · exact ⟨_, _, _, D__law_is⟩
    · exact ⟨_, _, _, D__law_whole⟩
    · exact ⟨_, _, _, D__law_cell⟩
    · exact ⟨_, _, _, D__law_digits⟩
    · exact ⟨_, _, _, D__law_gcd⟩
    · exact ⟨_, _, _, D__law_ratio⟩
    · exact ⟨_, _, _, D__law_is_ratio⟩
    · exact ⟨_, _, _, D__law_joined⟩
    · exact ⟨_, _, _, D__law_fraction⟩
    · exact ⟨_, _, _, D__law_written⟩
    · exact ⟨_, _, _, D__law_number_word⟩
    · exact ⟨_, _, _, D__law_fraction_word⟩
    · exact ⟨_, _, _, D__law_sign⟩
    · exact ⟨_, _, _, D__law_changed⟩
    · exact ⟨_, _, _, D__law_pool_word⟩
    · exact ⟨_, _, _, D__law_agrees⟩
    · exact ⟨_, _, _, D__law_there_and_back⟩
    · exact ⟨_, _, _, D_law⟩
  · have key : gl.fs.all (fun q => match pg.defs[q.2]? with | some d => decide (d.name = q.1) | none => false) = true := by decide +kernel
    have q := List.all_eq_true.mp key (s, f) (PySem.mem_of_lookup hs)
    cases e : pg.defs[f]? with
    | none => simp [e] at q
    | some d => exact ⟨d, rfl, by simpa [e] using q⟩
  · have hs : s ∈ bltNames := hs
    simp only [bltNames, List.mem_cons, List.not_mem_nil, or_false] at hs
    rcases hs with rfl | rfl | rfl | rfl | rfl | rfl | rfl | rfl | rfl | rfl | rfl | rfl | rfl
    · exact PySem.W.mg_none_of X G n_len
    · exact PySem.W.mg_none_of X G n_int
    · exact PySem.W.mg_none_of X G n_str
    · exact PySem.W.mg_none_of X G n_abs
    · exact PySem.W.mg_none_of X G n_max
    · exact PySem.W.mg_none_of X G n_min
    · exact PySem.W.mg_none_of X G n_repr
    · exact PySem.W.mg_none_of X G n_tuple
    · exact PySem.W.mg_none_of X G n_list
    · exact PySem.W.mg_none_of X G n_range
    · exact PySem.W.mg_none_of X G n_isinstance
    · exact PySem.W.mg_none_of X G n_bool
    · exact PySem.W.mg_none_of X G n_ValueError
  · have hm : (s, c) ∈ [(("CutError" : Str), 0), (("ZeroBottom" : Str), 1), (("BadShape" : Str), 2), (("FlatLattice" : Str), 3), (("NothingToUndo" : Str), 4), (("NothingToRedo" : Str), 5), (("BadLine" : Str), 6), (("BadRest" : Str), 7), (("OffWheel" : Str), 8), (("Wasteful" : Str), 9), (("CutsOff" : Str), 10), (("BadOrder" : Str), 11), (("NotTwoSlopes" : Str), 12), (("NoWalk" : Str), 13), (("OffRest" : Str), 14), (("CheaperColumn" : Str), 15), (("BadWord" : Str), 16), (("BadText" : Str), 17), (("TakenName" : Str), 18), (("UnknownName" : Str), 19), (("StillUsed" : Str), 20), (("TooFine" : Str), 21)] := PySem.mem_of_lookup hs
    simp only [List.mem_cons, List.not_mem_nil, or_false, Prod.mk.injEq] at hm
    rcases hm with ⟨rfl, rfl⟩ | ⟨rfl, rfl⟩ | ⟨rfl, rfl⟩ | ⟨rfl, rfl⟩ | ⟨rfl, rfl⟩ | ⟨rfl, rfl⟩ | ⟨rfl, rfl⟩ | ⟨rfl, rfl⟩ | ⟨rfl, rfl⟩ | ⟨rfl, rfl⟩ | ⟨rfl, rfl⟩ | ⟨rfl, rfl⟩ | ⟨rfl, rfl⟩ | ⟨rfl, rfl⟩ | ⟨rfl, rfl⟩ | ⟨rfl, rfl⟩ | ⟨rfl, rfl⟩ | ⟨rfl, rfl⟩ | ⟨rfl, rfl⟩ | ⟨rfl, rfl⟩ | ⟨rfl, rfl⟩ | ⟨rfl, rfl⟩
    · exact PySem.W.mg_of X G g_CutError
    · exact PySem.W.mg_of X G g_ZeroBottom
    · exact PySem.W.mg_of X G g_BadShape
    · exact PySem.W.mg_of X G g_FlatLattice
    · exact PySem.W.mg_of X G g_NothingToUndo
    · exact PySem.W.mg_of X G g_NothingToRedo
    · exact PySem.W.mg_of X G g_BadLine
    · exact PySem.W.mg_of X G g_BadRest
    · exact PySem.W.mg_of X G g_OffWheel
    · exact PySem.W.mg_of X G g_Wasteful
    · exact PySem.W.mg_of X G g_CutsOff
    · exact PySem.W.mg_of X G g_BadOrder
    · exact PySem.W.mg_of X G g_NotTwoSlopes
    · exact PySem.W.mg_of X G g_NoWalk
    · exact PySem.W.mg_of X G g_OffRest
    · exact PySem.W.mg_of X G g_CheaperColumn
    · exact PySem.W.mg_of X G g_BadWord
    · exact PySem.W.mg_of X G g_BadText
    · exact PySem.W.mg_of X G g_TakenName
    · exact PySem.W.mg_of X G g_UnknownName
    · exact PySem.W.mg_of X G g_StillUsed
    · exact PySem.W.mg_of X G g_TooFine
  · have hc : c ∈ [16] := hc
    simp only [List.mem_cons, List.not_mem_nil, or_false] at hc
    subst hc
    exact Y_BadWord
  · have hc : c ∈ [16] := hc
    simp only [List.mem_cons, List.not_mem_nil, or_false] at hc
    subst hc
    exact ⟨T_BadWord, by decide, i_BadWord, _, _, iC_BadWord, tI_BadWord, .all (fun us hl => match us, hl with | [_, _], _ => rfl), I_BadWord⟩
end K84
namespace K84
open PySem PySem.Spec PyProof.Rows L2 PI
theorem call_eq {n f : Nat} {calm : Bool} {ds : List PI.D} {d : Def} (h : pg.defs[f]? = some d) (hl : ds.length = d.np) : pg.call (n + 1) calm f ds = endC d.np (exSs (pg.ctx (pg.call n) calm d) d.body (env0 d ds)) := by
  simp only [Prg.call, h, hl, if_true]
/-- _law_is -/
theorem call_is {n : Nat} {calm : Bool} {x y : PI.D} {p q : PyData} (hx : D.py x = some p) (hy : D.py y = some q) (sx : shW p = true) (sy : shW q = true) (dx : p.depth ≤ 50) (dy : q.depth ≤ 50) (lx : p.shown.length ≤ sizeLine) (ly : q.shown.length ≤ sizeLine) :
    pg.call (n + 1) calm 4 [x, y] = .ret (.bl (decide (p.shown = q.shown))) [some x, some y] := by
  rw [call_eq (d := d__law_is) rfl rfl]
  simp [d__law_is, b__law_is, env0, exSs, exS, evE, getV, biCalm, biF, hx, hy, sx, sy, dx, dy, lx, ly, cmpD, scalD, endC]
end K84
/-! PI: evaluation, one statement after another. -/
namespace PI
open PySem
section
variable {C : Ctx} {s : S} {r : Ss} {v v1 v2 : PI.Env} {d : D} {c n : Nat} {fs : Fs} {x : RS}
theorem seq_nx (h : exS C s v = .nx v1) : exSs C (.cons s r) v = exSs C r v1 := by simp only [exSs, h]
theorem seq_ret (h : exS C s v = .ret d v1) : exSs C (.cons s r) v = .ret d v1 := by simp only [exSs, h]
theorem seq_exc (h : exS C s v = .exc c fs v1) : exSs C (.cons s r) v = .exc c fs v1 := by simp only [exSs, h]
theorem seq_brk (h : exS C s v = .brk v1) : exSs C (.cons s r) v = .brk v1 := by simp only [exSs, h]
theorem seq_nil : exSs C .nil v = .nx v := by simp only [exSs]
theorem if_t {c : T} {a b : Ss} (h : evT C c v = .ok true v1) : exS C (.ife c a b) v = exSs C a v1 := by simp only [exS, h, R.s_ok, if_true]
theorem if_f {c : T} {a b : Ss} (h : evT C c v = .ok false v1) : exS C (.ife c a b) v = exSs C b v1 := by simp only [exS, h, R.s_ok, Bool.false_eq_true, if_false]
theorem for_is {t : Tg} {src : It'} {body : Ss} {items : List D} (hc : C.calm = true) (hi : evI C src v = .ok items v1) (hl : forL (fun d v2 => asR C t d v2 fun v3 => exSs C body v3) items v1 = x) : exS C (.forS t src body) v = x := by
  simp only [exS, hc, if_true, hi, R.s_ok, hl]
theorem set_is {i : Nat} {e : E} (h : evE C e v = .ok d v1) (hp : C.pr i = false) : exS C (.set i e) v = .nx (v1.set i (some d)) := by simp only [exS, h, R.s_ok, asT, hp, Bool.false_eq_true, if_false, okR_some]
theorem ret_is {e : E} (h : evE C e v = .ok d v1) : exS C (.ret e) v = .ret d v1 := by simp only [exS, h, R.s_ok]
theorem forL_nx {step : D → PI.Env → RS} {l : List D} (h : step d v = .nx v1) : forL step (d :: l) v = forL step l v1 := by simp only [forL, h]
theorem forL_cont {step : D → PI.Env → RS} {l : List D} (h : step d v = .cont v1) : forL step (d :: l) v = forL step l v1 := by simp only [forL, h]
theorem forL_brk {step : D → PI.Env → RS} {l : List D} (h : step d v = .brk v1) : forL step (d :: l) v = .nx v1 := by simp only [forL, h]
theorem forL_ret {step : D → PI.Env → RS} {l : List D} {e : D} (h : step d v = .ret e v1) : forL step (d :: l) v = .ret e v1 := by simp only [forL, h]
theorem forL_exc {step : D → PI.Env → RS} {l : List D} (h : step d v = .exc c fs v1) : forL step (d :: l) v = .exc c fs v1 := by simp only [forL, h]
theorem try_nx {body suite : Ss} {i : Nat} (hg : (C.calm && !C.pr i && C.cur.isNone) = true) (hb : exSs C body v = .nx v1) : exS C (.tryS body c i suite) v = .nx v1 := by simp only [exS, hg, if_true, hb]
theorem try_ret {body suite : Ss} {i c' : Nat} (hg : (C.calm && !C.pr i && C.cur.isNone) = true) (hb : exSs C body v = .exc c' fs v1) (hr : (C.rcs.contains c' && decide (i < v1.length)) = true) (hs : C.sub c' c = true)
    (hsu : exSs { C with cur := some (i, c', fs), calm := false } suite (v1.set i none) = .ret d v2) : exS C (.tryS body c i suite) v = .ret d (v2.set i none) := by simp only [exS, hg, if_true, hb, hr, hs, hsu]
/-- a call of values -/
theorem call_vals {f : Nat} {es : Es} {l : List D} {o : PI.Env} (h : evA C es v = .ok (l.map .d) v1) (hc : C.cf C.calm f l = .ret d o) : evE C (.call f es) v = .ok d v1 := by
  have h1 : ∀ l : List D, arVs (l.map Ar.d) = [] := fun l => by induction l with | nil => rfl | cons a l ih => simpa [arVs] using ih
  have h2 : ∀ (l : List D) (b : List Bool), arD (l.map Ar.d) b v1 = some (l, v1) := fun l => by
    induction l with
    | nil => intro b; rfl
    | cons a l ih => intro b; simp only [List.map_cons, arD, ih, Option.map_some]
  have h3 : ∀ (l : List D) (b : List Bool) (o : PI.Env), arB (l.map Ar.d) b o v1 = v1 := fun l => by
    induction l with
    | nil => intro b o; rfl
    | cons a l ih => intro b o; simp only [List.map_cons, arB, ih]
  simp only [evE, h, R.bind_ok, callC, h1, noDup, if_true, h2, hc, h3]
theorem call_exc {f : Nat} {es : Es} {l : List D} {o : PI.Env} (h : evA C es v = .ok (l.map .d) v1) (hc : C.cf C.calm f l = .exc c fs o) : evE C (.call f es) v = .exc c fs v1 := by
  have h1 : ∀ l : List D, arVs (l.map Ar.d) = [] := fun l => by induction l with | nil => rfl | cons a l ih => simpa [arVs] using ih
  have h2 : ∀ (l : List D) (b : List Bool), arD (l.map Ar.d) b v1 = some (l, v1) := fun l => by
    induction l with
    | nil => intro b; rfl
    | cons a l ih => intro b; simp only [List.map_cons, arD, ih, Option.map_some]
  have h3 : ∀ (l : List D) (b : List Bool) (o : PI.Env), arB (l.map Ar.d) b o v1 = v1 := fun l => by
    induction l with
    | nil => intro b o; rfl
    | cons a l ih => intro b o; simp only [List.map_cons, arB, ih]
  simp only [evE, h, R.bind_ok, callC, h1, noDup, if_true, h2, hc, h3]
end
/-! ### expressions, by their parts (nothing is unfolded where they are used) -/
section
variable {C : Ctx} {a b : E} {v v1 v2 : PI.Env} {x y d : D} {op : Operator} {co : CmpOp} {i : Nat} {t : Bool}
theorem ev_var (h : getV v i = some d) (hf : d.freeze = d) (hs : v.set i (some d) = v) : evE C (.var i) v = .ok d v := by simp only [evE, rdV, h, hf, hs]
theorem ev_int {i : Int} : evE C (.int i) v = .ok (.int i) v := by simp only [evE]
theorem ev_str {z : Str} : evE C (.str z) v = .ok (.str z) v := by simp only [evE]
theorem evA_nil : evA C .nil v = .ok [] v := by simp only [evA]
theorem evA_cons {es : Es} {as : List Ar} (ha : evE C a v = .ok x v1) (hr : evA C es v1 = .ok as v2) : evA C (.cons a es) v = .ok (.d x :: as) v2 := by simp only [evA, ha, hr, R.bind_ok]
theorem arAll_map : ∀ l : List D, arAll (l.map Ar.d) = some l
  | [] => rfl
  | d :: l => by simp only [List.map_cons, arAll, arAll_map l, Option.map_some]
theorem ev_tup {es : Es} {l : List D} (ha : evA C es v = .ok (l.map Ar.d) v1) (hl : l.length ≤ sizeLine) : evE C (.tup es) v = .ok (.tup l) v1 := by simp only [evE, ha, R.bind_ok, arAll_map, R.of_some, hl, if_true]
theorem ev_lst {es : Es} {l : List D} (ha : evA C es v = .ok (l.map Ar.d) v1) (hl : l.length ≤ sizeLine) : evE C (.lst es) v = .ok (.lst .own l) v1 := by simp only [evE, ha, R.bind_ok, arAll_map, R.of_some, hl, if_true]
theorem ev_bin (ha : evE C a v = .ok x v1) (hb : evE C b v1 = .ok y v2) (h : binD op x y = some d) : evE C (.bin op a b) v = .ok d v2 := by simp only [evE, ha, hb, R.bind_ok, h, R.of_some]
theorem ev_cmpT (ha : evE C a v = .ok x v1) (hb : evE C b v1 = .ok y v2) (h : cmpD co x y = some t) : evT C (.cmpT co a b) v = .ok t v2 := by simp only [evT, ha, hb, R.bind_ok, h, R.of_some]
theorem ev_cmp (ha : evE C a v = .ok x v1) (hb : evE C b v1 = .ok y v2) (h : cmpD co x y = some t) : evE C (.cmp co a b) v = .ok (.bl t) v2 := by simp only [evE, ha, hb, R.bind_ok, h, Option.map_some, R.of_some]
theorem ev_andE_t (ha : evE C a v = .ok (.bl true) v1) : evE C (.andE a b) v = evE C b v1 := by simp only [evE, ha, R.bind_ok, toB, R.of_some, if_true]
theorem ev_andE_f (ha : evE C a v = .ok (.bl false) v1) : evE C (.andE a b) v = .ok (.bl false) v1 := by simp only [evE, ha, R.bind_ok, toB, R.of_some, Bool.false_eq_true, if_false]
theorem ev_oneE : evE C (.one a) v = evE C a v := by simp only [evE]
theorem ev_non : evE C .non v = .ok .non v := by simp only [evE]
theorem ev_bi {bi : Bi} {es : Es} {as : List Ar} {l : List D} (hc : (biCalm bi && !C.calm) = false) (ha : evA C es v = .ok as v1) (hl : arAll as = some l) (h : biF bi l = some d) : evE C (.bi bi es) v = .ok d v1 := by simp only [evE, hc, Bool.false_eq_true, if_false, ha, R.bind_ok, hl, R.of_some, h]
theorem ev_biv {bi : Bi} (hc : biCalm bi = false) (hx : getV v i = some x) (h : biF bi [x] = some d) : evE C (.biv bi i) v = .ok d v := by simp only [evE, hc, Bool.false_eq_true, if_false, hx, h, R.of_some]
end
section
variable {C : Ctx} {a b : T} {v v1 : PI.Env} {t : Bool}
theorem ev_or_t (h : evT C a v = .ok true v1) : evT C (.orT a b) v = .ok true v1 := by simp only [evT, h, R.bind_ok, if_true]
theorem ev_or_f (h : evT C a v = .ok false v1) : evT C (.orT a b) v = evT C b v1 := by simp only [evT, h, R.bind_ok, Bool.false_eq_true, if_false]
theorem ev_and_t (h : evT C a v = .ok true v1) : evT C (.andT a b) v = evT C b v1 := by simp only [evT, h, R.bind_ok, if_true]
theorem ev_and_f (h : evT C a v = .ok false v1) : evT C (.andT a b) v = .ok false v1 := by simp only [evT, h, R.bind_ok, Bool.false_eq_true, if_false]
theorem ev_one : evT C (.oneT a) v = evT C a v := by simp only [evT]
theorem ev_not (h : evT C a v = .ok t v1) : evT C (.notT a) v = .ok (!t) v1 := by simp only [evT, h, R.bind_ok]
theorem ev_ev {e : E} {x : D} (h : evE C e v = .ok x v1) (hx : truthD x = some t) : evT C (.ev e) v = .ok t v1 := by simp only [evT, h, R.bind_ok, hx, R.of_some]
end
/-! ### operators, on variables (the kernel does not come to the bounds) -/
theorem binD_mul {i j : Int} (h : isIntMul i j = true) : binD .Mult (.int i) (.int j) = some (.int (i * j)) := by simp only [binD, h, if_true]
theorem mul_ok {i j : Int} (h : -(2 ^ 64) < j ∧ j < 2 ^ 64) : isIntMul i j = true := by
  unfold isIntMul
  simp only [Bool.or_eq_true, decide_eq_true_eq]
  exact .inl (.inr h)
theorem mul_okL {i j : Int} (h : -(2 ^ 64) < i ∧ i < 2 ^ 64) : isIntMul i j = true := by
  unfold isIntMul
  simp only [Bool.or_eq_true, decide_eq_true_eq]
  exact .inl (.inl h)
theorem binD_mulR {i j : Int} (h : -(2 ^ 64) < j ∧ j < 2 ^ 64) : binD .Mult (.int i) (.int j) = some (.int (i * j)) := binD_mul (mul_ok h)
theorem binD_mulL {i j : Int} (h : -(2 ^ 64) < i ∧ i < 2 ^ 64) : binD .Mult (.int i) (.int j) = some (.int (i * j)) := binD_mul (mul_okL h)
theorem binD_addI (i j : Int) : binD .Add (.int i) (.int j) = some (.int (i + j)) := rfl
theorem binD_subI (i j : Int) : binD .Sub (.int i) (.int j) = some (.int (i - j)) := rfl
theorem binD_div {i j : Int} (h : j ≠ 0) (h2 : j.natAbs.log2 < 9000) : binD .FloorDiv (.int i) (.int j) = some (.int (i.fdiv j)) := by
  have : j ≠ 0 ∧ j.natAbs.log2 < 9000 := ⟨h, h2⟩
  simp only [binD, if_pos this]
theorem binD_mod {i j : Int} (h : j ≠ 0) : binD .Mod (.int i) (.int j) = some (.int (i.fmod j)) := by simp only [binD, if_pos h]
theorem binD_addS {x y : Str} (h : x.length + y.length ≤ sizeLine) : binD .Add (.str x) (.str y) = some (.str (x ++ y)) := by simp only [binD, if_pos h]
theorem biF_str {i : Int} (h : i.natAbs < digLim) : biF .str [.int i] = some (.str (toString i)) := by simp only [biF, if_pos h]
theorem fmtD_int {i : Int} (h : i.natAbs < digLim) : fmtD (.int i) = some (toString i : Str) := by simp only [fmtD, if_pos h]
/-! ### repr told apart -/
theorem reprText_list (x : Str) : (reprText x).cps.toList = reprQuote x :: (x.cps.toList.flatMap (Builtin.Str.reprChar (reprQuote x)) ++ [reprQuote x]) := by
  unfold reprText
  rw [Array.toList_push, ← Array.foldl_toList]
  have h : ∀ (l : List Nat) (acc : Array Nat), (l.foldl (fun out c => out ++ (Builtin.Str.reprChar (reprQuote x) c).toArray) acc).toList = acc.toList ++ l.flatMap (Builtin.Str.reprChar (reprQuote x)) := by
    intro l
    induction l with
    | nil => intro acc; simp
    | cons c l ih => intro acc; rw [List.foldl_cons, ih]; simp
  rw [h]
  rfl
theorem reprChar_or (q c : Nat) : Builtin.Str.reprChar q c = [c] ∨ ∃ r, Builtin.Str.reprChar q c = 92 :: r := by
  unfold Builtin.Str.reprChar
  dsimp only
  repeat' split
  all_goals first | exact .inl rfl | exact .inr ⟨_, rfl⟩
def plainB (y : Str) : Bool := y.cps.all fun c => c != 92 && c != 39 && c != 34 && (Builtin.Str.reprChar 39 c == [c])
theorem flat_plain {q : Nat} : ∀ {l r : List Nat}, (∀ c ∈ r, c ≠ 92) → l.flatMap (Builtin.Str.reprChar q) = r → l = r
  | [], r, _, h => by simpa using h
  | c :: l, r, hr, h => by
    rw [List.flatMap_cons] at h
    rcases reprChar_or q c with e | ⟨t, e⟩
    · rw [e] at h
      cases r with
      | nil => simp at h
      | cons a r =>
        simp only [List.cons_append, List.nil_append, List.cons.injEq] at h
        rw [h.1, flat_plain (fun c hc => hr c (by simp [hc])) h.2]
    · rw [e] at h
      have : (92 : Nat) ∈ r := by rw [← h]; simp
      exact absurd rfl (hr 92 this)
theorem str_ext {x y : Str} (h : x.cps.toList = y.cps.toList) : x = y := by
  obtain ⟨a⟩ := x
  obtain ⟨b⟩ := y
  have : a = b := Array.toList_inj.mp h
  rw [this]
theorem repr_plain {x y : Str} (hy : plainB y = true) : reprText x = reprText y ↔ x = y := by
  refine ⟨fun h => ?_, fun h => by rw [h]⟩
  have h1 := congrArg (fun s : Str => s.cps.toList) h
  simp only [reprText_list] at h1
  have all := hy
  unfold plainB at all
  rw [← Array.all_toList, List.all_eq_true] at all
  have hq : reprQuote y = 39 := by
    unfold reprQuote
    have : y.cps.contains 39 = false := by
      rw [Bool.eq_false_iff]
      intro z
      have z : 39 ∈ y.cps.toList := by simpa using z
      have := all 39 z
      simp at this
    rw [this]
    rfl
  have hf : y.cps.toList.flatMap (Builtin.Str.reprChar 39) = y.cps.toList := by
    have : ∀ l : List Nat, (∀ c ∈ l, Builtin.Str.reprChar 39 c = [c]) → l.flatMap (Builtin.Str.reprChar 39) = l := by
      intro l
      induction l with
      | nil => intro _; rfl
      | cons c l ih => intro hl; rw [List.flatMap_cons, hl c (by simp), ih fun d hd => hl d (by simp [hd])]; rfl
    exact this _ fun c hc => by
      have := all c hc
      simp only [Bool.and_eq_true, beq_iff_eq] at this
      exact this.2
  rw [hq, hf] at h1
  simp only [List.cons.injEq] at h1
  obtain ⟨h2, h3⟩ := h1
  rw [h2] at h3
  have h4 := List.append_cancel_right h3
  exact str_ext (flat_plain (fun c hc => by
    have := all c hc
    simp only [Bool.and_eq_true, bne_iff_ne, ne_eq] at this
    exact this.1.1.1) h4)
end PI
namespace PI.KK
open PySem K84
/-- Euclid, n turns at most -/
def euc : Nat → Nat → Nat → Nat
  | 0, a, _ => a
  | n + 1, a, b => if b = 0 then a else euc n b (a % b)
theorem euc_gcd : ∀ (m n a b : Nat), b < 2 ^ m → 2 * m + 1 ≤ n → euc n a b = Nat.gcd a b
  | 0, n, a, b, h, hn => by
    obtain rfl : b = 0 := by simpa using h
    cases n with
    | zero => omega
    | succ n => simp [euc]
  | m + 1, n, a, b, h, hn => by
    match n, hn with
    | n + 2, hn =>
      by_cases h0 : b = 0
      · subst h0; simp [euc]
      · simp only [euc, h0, if_false]
        by_cases h1 : a % b = 0
        · rw [if_pos h1, Nat.gcd_comm, Nat.gcd_rec, h1]
          simp
        · rw [if_neg h1]
          have hb : b % (a % b) < 2 ^ m := by
            have h2 : a % b < b := Nat.mod_lt _ (by omega)
            have h3 : b % (a % b) < a % b := Nat.mod_lt _ (by omega)
            have h4 : b % (a % b) + a % b ≤ b := by
              have h5 := Nat.div_add_mod b (a % b)
              have h6 : 1 ≤ b / (a % b) := Nat.div_pos (by omega) (by omega)
              have h7 : (a % b) * 1 ≤ (a % b) * (b / (a % b)) := Nat.mul_le_mul_left _ h6
              omega
            have h8 : 2 ^ (m + 1) = 2 * 2 ^ m := by rw [Nat.pow_succ]; omega
            omega
          rw [euc_gcd m n _ _ hb (by omega), Nat.gcd_comm (a % b), ← Nat.gcd_rec, ← Nat.gcd_rec, Nat.gcd_comm]
def stepG (C : PI.Ctx) : PI.D → Env → RS := fun d v2 => asR C (.nm 2) d v2 fun v3 => exSs C (.cons (.ife (.cmpT .Eq (.var 1) (.int 0)) (.cons .brk
 .nil) .nil)
 (.cons (.set 3 (.bin .Mod (.biv .int 0) (.var 1)))
 (.cons (.set 0 (.var 1))
 (.cons (.set 1 (.var 3))
 .nil)))) v3
theorem loopG (C : PI.Ctx) (hp : ∀ i, i < 4 → C.pr i = false) : ∀ (l : List PI.D) (a b : Nat) (x y : Option PI.D), ∃ b' x' y', forL (stepG C) l [some (.int a), some (.int b), x, y] = .nx [some (.int (euc l.length a b)), b', x', y']
  | [], a, b, x, y => ⟨_, _, _, rfl⟩
  | d :: l, a, b, x, y => by
    have p0 := hp 0 (by omega)
    have p1 := hp 1 (by omega)
    have p2 := hp 2 (by omega)
    have p3 := hp 3 (by omega)
    by_cases h : b = 0
    · subst h
      refine ⟨some (.int 0), some d, y, ?_⟩
      simp [forL, stepG, asR, asT, p2, evE, evT, evC, evA, evO, evI, exS, exSs, getV, rdV, ixV, PI.D.freeze, biCalm, biF, binD_addI, binD_subI, cmpD, scalD, truthD, isNon, toI, toB, toS, callC, arVs, noDup, arD, arB, arAll, okR, R.of, R.bind, R.s, List.set, euc]
    · have hb : ¬ (b : Int) = 0 := by omega
      obtain ⟨b', x', y', e⟩ := loopG C hp l b (a % b) (some d) (some (.int ((a % b : Nat) : Int)))
      refine ⟨b', x', y', ?_⟩
      have hm : Int.fmod (a : Int) (b : Int) = ((a % b : Nat) : Int) := by
        rw [Int.fmod_eq_emod_of_nonneg _ (by omega)]
        rfl
      simp [forL, stepG, asR, asT, p0, p1, p2, p3, evE, evT, evC, evA, evO, evI, exS, exSs, getV, rdV, ixV, PI.D.freeze, biCalm, biF, binD_addI, binD_subI, cmpD, scalD, truthD, isNon, toI, toB, toS, callC, arVs, noDup, arD, arB, arAll, okR, R.of, R.bind, R.s, List.set, hb, h, hm, euc, binD]
      simpa using e
end PI.KK
namespace PI.KK
open PySem K84
theorem cut_head {w : Str} : (L2.cutS w none (some 1)).cps.toList = w.cps.toList.take 1 := by
  unfold L2.cutS HT.sIx
  simp [Str.length]
theorem cut_tail {w : Str} : (L2.cutS w (some 1) none).cps.toList = w.cps.toList.drop 1 := by
  unfold L2.cutS HT.sIx
  simp [Str.length]
  cases h : w.cps.toList with
  | nil =>
    have : w.cps.size = 0 := by rw [← Array.length_toList, h]; rfl
    simp [this]
  | cons c l =>
    have : w.cps.size = l.length + 1 := by rw [← Array.length_toList, h]; rfl
    simp [this]
theorem head_minus {w : Str} : L2.cutS w none (some 1) = "-" ↔ ∃ cs, w.cps.toList = 45 :: cs := by
  have e : ("-" : Str).cps.toList = [45] := by decide +kernel
  constructor
  · intro h
    have h1 := congrArg (fun s : Str => s.cps.toList) h
    simp only [cut_head, e] at h1
    cases hw : w.cps.toList with
    | nil => rw [hw] at h1; cases h1
    | cons c l =>
      rw [hw] at h1
      simp at h1
      exact ⟨l, by rw [h1]⟩
  · rintro ⟨cs, h⟩
    apply str_ext
    rw [cut_head, h, e]
    rfl
/-- a sign among the ten -/
abbrev TEN : Str := "0123456789"
def isD (c : Nat) : Bool := decide (48 ≤ c ∧ c ≤ 57)
theorem ten_at {c i : Nat} (h : StrLaws.At TEN ⟨#[c]⟩ TEN.length i) : c = 48 + i ∧ i < 10 := by
  obtain ⟨h1, h2⟩ := h
  have e : TEN = ⟨#[48, 49, 50, 51, 52, 53, 54, 55, 56, 57]⟩ := by decide +kernel
  rw [e] at h1 h2
  have h1 : i + 1 ≤ 10 := h1
  unfold Builtin.Str.subAt at h2
  have h2 := beq_iff_eq.mp h2
  match i, h1 with
  | 0, _ | 1, _ | 2, _ | 3, _ | 4, _ | 5, _ | 6, _ | 7, _ | 8, _ | 9, _ =>
    simp [Str.length] at h2
    omega
theorem ten_occ (c : Nat) : Builtin.Str.occurrences TEN ⟨#[c]⟩ 0 TEN.length 1 = if isD c then [c - 48] else [] := by
  by_cases h : 48 ≤ c ∧ c ≤ 57
  · have : c = 48 ∨ c = 49 ∨ c = 50 ∨ c = 51 ∨ c = 52 ∨ c = 53 ∨ c = 54 ∨ c = 55 ∨ c = 56 ∨ c = 57 := by omega
    rcases this with rfl | rfl | rfl | rfl | rfl | rfl | rfl | rfl | rfl | rfl <;> decide +kernel
  · have hd : isD c = false := by simp only [isD, decide_eq_false_iff_not]; exact h
    rw [hd]
    rcases StrLaws.occ_head TEN ⟨#[c]⟩ 1 (Nat.le_refl _) with ⟨e, _⟩ | ⟨i, r, _, ha, _⟩
    · simpa using e
    · have := ten_at ha
      omega
theorem ten_find (c : Nat) : Txt.find TEN ⟨#[c]⟩ = if isD c then ((c - 48 : Nat) : Int) else -1 := by
  unfold Txt.find
  rw [ten_occ]
  cases isD c <;> rfl
end PI.KK
namespace PI.KK
open PySem K84
def negW (w : Str) : Bool := decide (L2.cutS w none (some 1) = "-")
def digW (w : Str) : Str := if negW w then L2.cutS w (some 1) none else w
/-- what a word of a whole number tells -/
def NW (w : Str) : Option Int :=
  if (digW w).cps.toList = [] ∨ 800 < (digW w).length then none
  else if (digW w).cps.toList.all isD = false then none
  else if (digW w).cps.toList.head? = some 48 ∧ w ≠ "0" then none
  else some (if negW w then -((NumText.digitsVal (digW w).cps.toList : Nat) : Int) else ((NumText.digitsVal (digW w).cps.toList : Nat) : Int))
def oD : Option Int → PI.D
  | some i => .int i
  | none => .non
theorem size_ok {n : Nat} (h : n ≤ 200000) : n ≤ sizeLine := by rw [sizeLine_eq]; omega
theorem dig_len (w : Str) : (digW w).length ≤ w.length := by
  unfold digW
  split
  · exact L2.cutS_length _ _ _
  · exact Nat.le_refl _
theorem all_isD {l : List Nat} : l.all isD = true ↔ NumText.AllDigits l := by
  rw [List.all_eq_true]
  constructor
  · intro h c hc
    have := h c hc
    simpa [isD] using this
  · intro h c hc
    have := h c hc
    simpa [isD] using this
theorem len_list (w : Str) : w.cps.toList.length = w.length := Array.length_toList
/-- the text of a valid word, as int reads it -/
theorem int_word {w : Str} (h1 : (digW w).cps.toList ≠ []) (h2 : (digW w).length ≤ 800) (h3 : (digW w).cps.toList.all isD = true) :
    biF .int [.str w] = some (.int (if negW w then -((NumText.digitsVal (digW w).cps.toList : Nat) : Int) else ((NumText.digitsVal (digW w).cps.toList : Nat) : Int))) := by
  have hd := all_isD.mp h3
  by_cases hn : negW w = true
  · have hm := head_minus.mp (of_decide_eq_true hn)
    obtain ⟨cs, hcs⟩ := hm
    have e : (digW w).cps.toList = cs := by
      unfold digW
      rw [if_pos hn, cut_tail, hcs]
      rfl
    rw [e] at h1 hd ⊢
    have hl : w.length ≤ 801 := by
      have := len_list w
      have h4 := len_list (digW w)
      rw [hcs] at this
      rw [e] at h4
      simp at this
      omega
    have ht := intText_neg hcs hd h1 (by omega)
    have hs := (numText_signs (x := w) fun c hc => by
      rw [hcs] at hc
      rcases List.mem_cons.mp hc with z | z
      · exact .inl z
      · exact .inr (hd c z)).2
    have hc : w.length ≤ 640 ∨ (640 < (numSeenOf w).length ∧ w.length ≤ sizeLine) := by
      rw [hs, len_list]
      have := size_ok (n := w.length) (by omega)
      omega
    simp only [biF, if_pos hc, ht, Option.map_some, hn, if_true]
  · have e : digW w = w := by unfold digW; rw [if_neg hn]
    rw [e] at h1 hd h2 ⊢
    have ht := intText_digits hd h1 (by omega)
    have hs := (numText_signs (x := w) fun c hc => .inr (hd c hc)).2
    have hc : w.length ≤ 640 ∨ (640 < (numSeenOf w).length ∧ w.length ≤ sizeLine) := by
      rw [hs, len_list]
      have := size_ok (n := w.length) (by omega)
      omega
    simp only [biF, if_pos hc, ht, Option.map_some, hn, if_false, Bool.false_eq_true]
abbrev C1 (n : Nat) : PI.Ctx := pg.ctx (pg.call n) true d_parse_number
theorem pr1 {n i : Nat} (h : i ≠ 0) : (C1 n).pr i = false := by
  simp [Ctx.pr, Prg.ctx, d_parse_number, h]
abbrev B1 : Ss := .cons (.ife (.cmpT .NotIn (.var 2) (.str "0123456789")) (.cons (.ret .non) .nil) .nil) .nil
abbrev P1 (n : Nat) : PI.D → PI.Env → RS := fun d v2 => asR (C1 n) (.nm 2) d v2 fun v3 => exSs (C1 n) B1 v3
theorem P1_is (n : Nat) (w d : Str) (c : Nat) (x : Option PI.D) : P1 n (.str ⟨#[c]⟩) [some (.str w), some (.str d), x] = if isD c then .nx [some (.str w), some (.str d), some (.str ⟨#[c]⟩)] else .ret .non [some (.str w), some (.str d), some (.str ⟨#[c]⟩)] := by
  have p2 := pr1 (n := n) (i := 2) (by decide)
  cases hc : isD c <;> simp [P1, B1, asR, asT, p2, evE, evT, evC, evA, evO, evI, exS, exSs, getV, rdV, ixV, PI.D.freeze, biCalm, biF, binD_addI, binD_subI, cmpD, scalD, truthD, isNon, toI, toB, toS, callC, arVs, noDup, arD, arB, arAll, okR, R.of, R.bind, R.s, List.set, ten_occ, hc]
theorem loop1 (n : Nat) (w d : Str) : ∀ (l : List Nat) (x : Option PI.D), ∃ x', forL (P1 n) (l.map fun c => .str ⟨#[c]⟩) [some (.str w), some (.str d), x] = if l.all isD then .nx [some (.str w), some (.str d), x'] else .ret .non [some (.str w), some (.str d), x']
  | [], x => ⟨x, rfl⟩
  | c :: l, x => by
    have e := P1_is n w d c x
    rw [List.map_cons, List.all_cons]
    cases hc : isD c with
    | true =>
      rw [hc] at e
      rw [forL_nx e]
      simpa using loop1 n w d l (some (.str ⟨#[c]⟩))
    | false =>
      rw [hc] at e
      rw [forL_ret e]
      exact ⟨_, rfl⟩
abbrev R1 : Ss := (.cons (.ife (.orT (.notT (.ev (.var 1))) (.oneT (.cmpT .Gt (.biv .len 1) (.int 800)))) (.cons (.ret .non)
 .nil) .nil)
 (.cons (.forS (.nm 2) (.ov (.var 1)) B1)
 (.cons (.ife (.andT (.cmpT .Eq (.ixv 1 (.int 0)) (.str "0")) (.oneT (.cmpT .NotEq (.var 0) (.str "0")))) (.cons (.ret .non)
 .nil) .nil)
 (.cons (.ret (.biv .int 0))
 .nil))))
theorem call_number {w : Str} (hw : w.length ≤ 100000) (n : Nat) : ∃ o, pg.call (n + 1) true 0 [.str w] = .ret (oD (NW w)) o := by
  have hz := size_ok (n := w.length) (by omega)
  have hz2 := size_ok (n := (digW w).length) (by have := dig_len w; omega)
  rw [call_eq (d := d_parse_number) rfl rfl]
  have p1 := pr1 (n := n) (i := 1) (by decide)
  have h12 : exSs (C1 n) b_parse_number [some (.str w), none, none] = exSs (C1 n) R1 [some (.str w), some (.str (digW w)), none] := by
    refine (seq_nx (v1 := [some (.str w), some (.str w), none]) (by simp [evE, evT, evC, evA, evO, evI, exS, exSs, getV, rdV, ixV, PI.D.freeze, biCalm, biF, binD_addI, binD_subI, cmpD, scalD, truthD, isNon, toI, toB, toS, callC, arVs, noDup, arD, arB, arAll, okR, R.of, R.bind, R.s, asT, p1])).trans ?_
    refine (seq_nx (v1 := [some (.str w), some (.str (digW w)), none]) ?_).trans rfl
    by_cases hn : negW w = true
    · have hn' : L2.cutS w none (some 1) = "-" := of_decide_eq_true hn
      refine (if_t (v1 := [some (.str w), some (.str w), none]) (by simp [evE, evT, evC, evA, evO, evI, exS, exSs, getV, rdV, ixV, PI.D.freeze, biCalm, biF, binD_addI, binD_subI, cmpD, scalD, truthD, isNon, toI, toB, toS, callC, arVs, noDup, arD, arB, arAll, okR, R.of, R.bind, R.s, slcD, hz, hn'])).trans ?_
      simp [evE, evT, evC, evA, evO, evI, exS, exSs, getV, rdV, ixV, PI.D.freeze, biCalm, biF, binD_addI, binD_subI, cmpD, scalD, truthD, isNon, toI, toB, toS, callC, arVs, noDup, arD, arB, arAll, okR, R.of, R.bind, R.s, slcD, hz, asT, p1, digW, hn]
    · have hn' : ¬ L2.cutS w none (some 1) = "-" := fun h => hn (decide_eq_true h)
      refine (if_f (v1 := [some (.str w), some (.str w), none]) (by simp [evE, evT, evC, evA, evO, evI, exS, exSs, getV, rdV, ixV, PI.D.freeze, biCalm, biF, binD_addI, binD_subI, cmpD, scalD, truthD, isNon, toI, toB, toS, callC, arVs, noDup, arD, arB, arAll, okR, R.of, R.bind, R.s, slcD, hz, hn'])).trans ?_
      simp [evE, evT, evC, evA, evO, evI, exS, exSs, getV, rdV, ixV, PI.D.freeze, biCalm, biF, binD_addI, binD_subI, cmpD, scalD, truthD, isNon, toI, toB, toS, callC, arVs, noDup, arD, arB, arAll, okR, R.of, R.bind, R.s, digW, hn]
  show ∃ o, endC 1 (exSs (C1 n) b_parse_number [some (.str w), none, none]) = .ret (oD (NW w)) o
  rw [h12]
  have he : ((digW w).length : Int) = 0 ↔ (digW w).cps.toList = [] := by
    rw [← List.length_eq_zero_iff, len_list]
    omega
  by_cases g1 : (digW w).cps.toList = [] ∨ 800 < (digW w).length
  · have e : NW w = none := by unfold NW; rw [if_pos g1]
    rw [e]
    refine ⟨[some (.str w)], ?_⟩
    unfold R1
    rw [seq_ret (d := .non) (v1 := [some (.str w), some (.str (digW w)), none])]
    · rfl
    · by_cases g2 : (digW w).cps.toList = []
      · have g3 := he.mpr g2
        refine (if_t (v1 := [some (.str w), some (.str (digW w)), none]) (by simp [evE, evT, evC, evA, evO, evI, exS, exSs, getV, rdV, ixV, PI.D.freeze, biCalm, biF, binD_addI, binD_subI, cmpD, scalD, truthD, isNon, toI, toB, toS, callC, arVs, noDup, arD, arB, arAll, okR, R.of, R.bind, R.s, hz2, g3])).trans ?_
        simp [evE, evT, evC, evA, evO, evI, exS, exSs, getV, rdV, ixV, PI.D.freeze, biCalm, biF, binD_addI, binD_subI, cmpD, scalD, truthD, isNon, toI, toB, toS, callC, arVs, noDup, arD, arB, arAll, okR, R.of, R.bind, R.s]
      · have g3 : ¬ ((digW w).length : Int) = 0 := fun h => g2 (he.mp h)
        have g4 : (800 : Int) < ((digW w).length : Int) := by
          have := g1.resolve_left g2
          omega
        refine (if_t (v1 := [some (.str w), some (.str (digW w)), none]) (by simp [evE, evT, evC, evA, evO, evI, exS, exSs, getV, rdV, ixV, PI.D.freeze, biCalm, biF, binD_addI, binD_subI, cmpD, scalD, truthD, isNon, toI, toB, toS, callC, arVs, noDup, arD, arB, arAll, okR, R.of, R.bind, R.s, hz2, g3, g4])).trans ?_
        simp [evE, evT, evC, evA, evO, evI, exS, exSs, getV, rdV, ixV, PI.D.freeze, biCalm, biF, binD_addI, binD_subI, cmpD, scalD, truthD, isNon, toI, toB, toS, callC, arVs, noDup, arD, arB, arAll, okR, R.of, R.bind, R.s]
  · have g1' := not_or.mp g1
    have g3 : ¬ ((digW w).length : Int) = 0 := fun h => g1'.1 (he.mp h)
    have g4 : ¬ (800 : Int) < ((digW w).length : Int) := by
      have := g1'.2
      omega
    have g3n : ¬ (digW w).length = 0 := by omega
    have g4n : ¬ 800 < (digW w).length := g1'.2
    unfold R1
    rw [seq_nx (v1 := [some (.str w), some (.str (digW w)), none]) ((if_f (v1 := [some (.str w), some (.str (digW w)), none]) (by simp [evE, evT, evC, evA, evO, evI, exS, exSs, getV, rdV, ixV, PI.D.freeze, biCalm, biF, binD_addI, binD_subI, cmpD, scalD, truthD, isNon, toI, toB, toS, callC, arVs, noDup, arD, arB, arAll, okR, R.of, R.bind, R.s, hz2, g3n, g4])).trans seq_nil)]
    obtain ⟨x', hl⟩ := loop1 n w (digW w) (digW w).cps.toList none
    have hsrc : evI (C1 n) (.ov (.var 1)) [some (.str w), some (.str (digW w)), none] = .ok ((digW w).cps.toList.map fun c => .str ⟨#[c]⟩) [some (.str w), some (.str (digW w)), none] := by simp [evE, evT, evC, evA, evO, evI, exS, exSs, getV, rdV, ixV, PI.D.freeze, biCalm, biF, binD_addI, binD_subI, cmpD, scalD, truthD, isNon, toI, toB, toS, callC, arVs, noDup, arD, arB, arAll, okR, R.of, R.bind, R.s, itemsD]
    cases g5 : (digW w).cps.toList.all isD with
    | false =>
      have e : NW w = none := by unfold NW; rw [if_neg g1, if_pos g5]
      rw [e]
      rw [g5] at hl
      refine ⟨[some (.str w)], ?_⟩
      rw [seq_ret (for_is rfl hsrc hl)]
      rfl
    | true =>
      rw [g5] at hl
      rw [seq_nx (for_is rfl hsrc hl)]
      obtain ⟨c, cs, hcs⟩ := List.exists_cons_of_ne_nil g1'.1
      have hat : L2.atI (digW w).cps.toList 0 = some c := by
        rw [hcs]
        simp [L2.atI, L2.ixN]
      have hc48 : (⟨#[c]⟩ : Str) = "0" ↔ c = 48 := by
        have e0 : ("0" : Str) = ⟨#[48]⟩ := by decide +kernel
        rw [e0]
        simp
      by_cases g6 : (digW w).cps.toList.head? = some 48 ∧ w ≠ "0"
      · have e : NW w = none := by unfold NW; rw [if_neg g1, if_neg (by rw [g5]; simp), if_pos g6]
        rw [e]
        have g7 : c = 48 := by rw [hcs] at g6; simpa using g6.1
        subst g7
        refine ⟨[some (.str w)], ?_⟩
        have hw0 := g6.2
        rw [seq_ret (d := .non) (v1 := [some (.str w), some (.str (digW w)), x']) ((if_t (v1 := [some (.str w), some (.str (digW w)), x']) (by simp [evE, evT, evC, evA, evO, evI, exS, exSs, getV, rdV, ixV, PI.D.freeze, biCalm, biF, binD_addI, binD_subI, cmpD, scalD, truthD, isNon, toI, toB, toS, callC, arVs, noDup, arD, arB, arAll, okR, R.of, R.bind, R.s, PI.ixD, hz2, hat, hc48, hw0, PI.D.frozen])).trans (by simp [evE, evT, evC, evA, evO, evI, exS, exSs, getV, rdV, ixV, PI.D.freeze, biCalm, biF, binD_addI, binD_subI, cmpD, scalD, truthD, isNon, toI, toB, toS, callC, arVs, noDup, arD, arB, arAll, okR, R.of, R.bind, R.s]))]
        rfl
      · have e : NW w = some (if negW w then -((NumText.digitsVal (digW w).cps.toList : Nat) : Int) else ((NumText.digitsVal (digW w).cps.toList : Nat) : Int)) := by unfold NW; rw [if_neg g1, if_neg (by rw [g5]; simp), if_neg g6]
        rw [e]
        refine ⟨[some (.str w)], ?_⟩
        have hi := int_word g1'.1 (Nat.not_lt.mp g1'.2) g5
        have hif : evT (C1 n) (.andT (.cmpT .Eq (.ixv 1 (.int 0)) (.str "0")) (.oneT (.cmpT .NotEq (.var 0) (.str "0")))) [some (.str w), some (.str (digW w)), x'] = .ok false [some (.str w), some (.str (digW w)), x'] := by
          by_cases g7 : c = 48
          · have g8 : w = "0" := by
              by_cases z : w = "0"
              · exact z
              · exact absurd ⟨by rw [hcs, g7]; rfl, z⟩ g6
            subst g8
            subst g7
            simp [evE, evT, evC, evA, evO, evI, exS, exSs, getV, rdV, ixV, PI.D.freeze, biCalm, biF, binD_addI, binD_subI, cmpD, scalD, truthD, isNon, toI, toB, toS, callC, arVs, noDup, arD, arB, arAll, okR, R.of, R.bind, R.s, PI.ixD, hz2, hat, hc48, PI.D.frozen]
          · simp [evE, evT, evC, evA, evO, evI, exS, exSs, getV, rdV, ixV, PI.D.freeze, biCalm, biF, binD_addI, binD_subI, cmpD, scalD, truthD, isNon, toI, toB, toS, callC, arVs, noDup, arD, arB, arAll, okR, R.of, R.bind, R.s, PI.ixD, hz2, hat, hc48, g7, PI.D.frozen]
        rw [seq_nx ((if_f hif).trans seq_nil)]
        rw [seq_ret (ret_is (d := .int _) (v1 := [some (.str w), some (.str (digW w)), x']) (by simp only [evE, biCalm, Bool.false_eq_true, if_false]; show R.of (biF .int [.str w]) _ = _; rw [hi]; rfl))]
        rfl
end PI.KK
namespace PI.KK
open PySem K84
/-- a word of the law: of fair size, of plain signs -/
structure Ok (w : Str) : Prop where
  len : w.length ≤ 100000
  low : ∀ c ∈ w.cps.toList, c < 256
theorem reprChar_len : ∀ c, c < 256 → (Builtin.Str.reprChar 39 c).length ≤ 4 ∧ (Builtin.Str.reprChar 34 c).length ≤ 4 := by decide +kernel
theorem flat_len {q : Nat} (hq : q = 39 ∨ q = 34) : ∀ {l : List Nat}, (∀ c ∈ l, c < 256) → (l.flatMap (Builtin.Str.reprChar q)).length ≤ 4 * l.length
  | [], _ => by simp
  | c :: l, h => by
    have h1 := flat_len hq (l := l) fun d hd => h d (by simp [hd])
    have h2 := reprChar_len c (h c (by simp))
    rw [List.flatMap_cons, List.length_append, List.length_cons]
    rcases hq with rfl | rfl <;> omega
theorem quote_or (x : Str) : reprQuote x = 39 ∨ reprQuote x = 34 := by
  unfold reprQuote
  split
  · exact .inr rfl
  · exact .inl rfl
theorem Ok.shown {w : Str} (h : Ok w) : (reprText w).length ≤ sizeLine := by
  have h1 := flat_len (quote_or w) h.low
  rw [← len_list, reprText_list]
  simp only [List.length_cons, List.length_append, List.length_nil]
  have h2 := len_list w
  have h3 := h.len
  rw [sizeLine_eq]
  omega
theorem Ok.cut {w : Str} (h : Ok w) (lo hi : Option Int) : Ok (L2.cutS w lo hi) := by
  refine ⟨Nat.le_trans (L2.cutS_length w lo hi) h.len, fun c hc => h.low c ?_⟩
  unfold L2.cutS at hc
  simp only [List.toList_toArray] at hc
  exact List.mem_of_mem_drop (List.mem_of_mem_take hc)
theorem Ok.one {w : Str} (h : Ok w) {c : Nat} (hc : c ∈ w.cps.toList) : Ok ⟨#[c]⟩ := ⟨by show (1 : Nat) ≤ _; decide, fun d hd => by
  have : d = c := by simpa using hd
  rw [this]
  exact h.low c hc⟩
theorem Ok.size {w : Str} (h : Ok w) : w.length ≤ sizeLine := size_ok (Nat.le_trans h.len (by decide))
theorem Ok.dig {w : Str} (h : Ok w) : Ok (digW w) := by
  unfold digW
  split
  · exact h.cut _ _
  · exact h
theorem is_str {n : Nat} {calm : Bool} {x y : Str} (hx : Ok x) (hy : Ok y) (hp : plainB y = true) : pg.call (n + 1) calm 4 [.str x, .str y] = .ret (.bl (decide (x = y))) [some (.str x), some (.str y)] := by
  rw [call_is (p := .str x) (q := .str y) rfl rfl rfl rfl (by simp [PyData.depth]) (by simp [PyData.depth]) hx.shown hy.shown]
  have : ((PyData.str x).shown = (PyData.str y).shown) = (x = y) := propext (repr_plain hp)
  simp only [this]
theorem is_same {n : Nat} {calm : Bool} {x : Str} (hx : Ok x) : pg.call (n + 1) calm 4 [.str x, .str x] = .ret (.bl true) [some (.str x), some (.str x)] := by
  rw [call_is (p := .str x) (q := .str x) rfl rfl rfl rfl (by simp [PyData.depth]) (by simp [PyData.depth]) hx.shown hx.shown]
  simp
theorem okM : Ok "-" ∧ plainB "-" = true := ⟨⟨by decide +kernel, by decide +kernel⟩, by decide +kernel⟩
theorem ok0 : Ok "0" ∧ plainB "0" = true := ⟨⟨by decide +kernel, by decide +kernel⟩, by decide +kernel⟩
end PI.KK
namespace PI.KK
open PySem K84
abbrev C2 (n : Nat) : PI.Ctx := pg.ctx (pg.call (n + 1)) true d__law_number_word
theorem pr2 {n i : Nat} (h : i ≠ 0) : (C2 n).pr i = false := by
  simp [Ctx.pr, Prg.ctx, d__law_number_word, h]
abbrev B2 : Ss := (.cons (.set 4 (.bm .find (.str "0123456789") (.cons (.var 3) .nil)))
 (.cons (.ife (.cmpT .Lt (.var 4) (.int 0)) (.cons (.ret .non)
 .nil) .nil)
 (.cons (.set 2 (.bin .Add (.bin .Mult (.var 2) (.int 10)) (.var 4)))
 .nil)))
abbrev P2 (n : Nat) : PI.D → PI.Env → RS := fun d v2 => asR (C2 n) (.nm 3) d v2 fun v3 => exSs (C2 n) B2 v3
theorem P2_is (n : Nat) (w d : Str) (c m : Nat) (x y : Option PI.D) : ∃ x' y', P2 n (.str ⟨#[c]⟩) [some (.str w), some (.str d), some (.int m), x, y] =
    if isD c then .nx [some (.str w), some (.str d), some (.int ((m * 10 + (c - 48) : Nat) : Int)), x', y'] else .ret .non [some (.str w), some (.str d), some (.int m), x', y'] := by
  have p2 := pr2 (n := n) (i := 2) (by decide)
  have p3 := pr2 (n := n) (i := 3) (by decide)
  have p4 := pr2 (n := n) (i := 4) (by decide)
  have hf := ten_find c
  have hm : binD .Mult (.int (m : Int)) (.int 10) = some (.int ((m : Int) * 10)) := binD_mulR ⟨by omega, by omega⟩
  have hfind : ∀ v : PI.Env, getV v 3 = some (.str ⟨#[c]⟩) → v.set 3 (some (.str ⟨#[c]⟩)) = v → evE (C2 n) (.bm .find (.str "0123456789") (.cons (.var 3) .nil)) v = .ok (.int (Txt.find TEN ⟨#[c]⟩)) v := fun v h1 h2 => by
    simp only [evE, evA, R.bind_ok, toS, R.of_some, rdV, h1, h2, PI.D.freeze, arAll, Option.map_some, bmF]
  generalize Txt.find TEN ⟨#[c]⟩ = fd at hf hfind
  have h0 : asT (C2 n) (.nm 3) (.str ⟨#[c]⟩) [some (.str w), some (.str d), some (.int m), x, y] = some [some (.str w), some (.str d), some (.int m), some (.str ⟨#[c]⟩), y] := by simp only [asT, p3]; rfl
  have h1 := set_is (C := C2 n) (i := 4) (hfind [some (.str w), some (.str d), some (.int m), some (.str ⟨#[c]⟩), y] rfl rfl) p4
  cases hc : isD c with
  | true =>
    rw [hc] at hf
    simp only [if_true] at hf
    subst hf
    have hneg : ¬ (((c - 48 : Nat) : Int)) < 0 := by omega
    refine ⟨some (.str ⟨#[c]⟩), some (.int ((c - 48 : Nat) : Int)), ?_⟩
    simp only [P2, asR, h0, B2, if_true]
    rw [seq_nx h1]
    rw [seq_nx ((if_f (v1 := [some (.str w), some (.str d), some (.int m), some (.str ⟨#[c]⟩), some (.int ((c - 48 : Nat) : Int))]) (by simp [evE, evT, evC, evA, evO, evI, exS, exSs, getV, rdV, ixV, PI.D.freeze, biCalm, biF, binD_addI, binD_subI, cmpD, scalD, truthD, isNon, toI, toB, toS, callC, arVs, noDup, arD, arB, arAll, okR, R.of, R.bind, R.s, hneg])).trans seq_nil)]
    let V : PI.Env := [some (.str w), some (.str d), some (.int m), some (.str ⟨#[c]⟩), some (.int ((c - 48 : Nat) : Int))]
    have g2 : getV V 2 = some (.int m) := rfl
    have g4 : getV V 4 = some (.int ((c - 48 : Nat) : Int)) := rfl
    have s2 : V.set 2 (some (.int m)) = V := rfl
    have s4 : V.set 4 (some (.int ((c - 48 : Nat) : Int))) = V := rfl
    have ev : evE (C2 n) (.bin .Add (.bin .Mult (.var 2) (.int 10)) (.var 4)) V = .ok (.int ((m : Int) * 10 + ((c - 48 : Nat) : Int))) V :=
      ev_bin (ev_bin (ev_var g2 rfl s2) (show evE (C2 n) (.int 10) V = .ok (.int 10) V from rfl) hm) (ev_var g4 rfl s4) (binD_addI _ _)
    have cast : ((m * 10 + (c - 48) : Nat) : Int) = (m : Int) * 10 + ((c - 48 : Nat) : Int) := by rw [Int.natCast_add, Int.natCast_mul]; rfl
    rw [cast]
    rw [seq_nx (set_is (i := 2) ev p2)]
    rfl
  | false =>
    rw [hc] at hf
    simp only [Bool.false_eq_true, if_false] at hf
    subst hf
    refine ⟨some (.str ⟨#[c]⟩), some (.int (-1)), ?_⟩
    simp only [P2, asR, h0, B2, Bool.false_eq_true, if_false]
    rw [seq_nx h1]
    rw [seq_ret ((if_t (v1 := [some (.str w), some (.str d), some (.int m), some (.str ⟨#[c]⟩), some (.int (-1))]) (by simp [evE, evT, evC, evA, evO, evI, exS, exSs, getV, rdV, ixV, PI.D.freeze, biCalm, biF, binD_addI, binD_subI, cmpD, scalD, truthD, isNon, toI, toB, toS, callC, arVs, noDup, arD, arB, arAll, okR, R.of, R.bind, R.s])).trans (show exSs (C2 n) (.cons (.ret .non) .nil) _ = .ret .non [some (.str w), some (.str d), some (.int m), some (.str ⟨#[c]⟩), some (.int (-1))] from by simp [evE, evT, evC, evA, evO, evI, exS, exSs, getV, rdV, ixV, PI.D.freeze, biCalm, biF, binD_addI, binD_subI, cmpD, scalD, truthD, isNon, toI, toB, toS, callC, arVs, noDup, arD, arB, arAll, okR, R.of, R.bind, R.s]))]
theorem loop2 (n : Nat) (w d : Str) : ∀ (l : List Nat) (m : Nat) (x y : Option PI.D), ∃ m' x' y', forL (P2 n) (l.map fun c => .str ⟨#[c]⟩) [some (.str w), some (.str d), some (.int m), x, y] =
    if l.all isD then .nx [some (.str w), some (.str d), some (.int ((l.foldl (fun acc c => acc * 10 + (c - 48)) m : Nat) : Int)), x', y'] else .ret .non [some (.str w), some (.str d), some (.int (m' : Nat)), x', y']
  | [], m, x, y => ⟨m, x, y, rfl⟩
  | c :: l, m, x, y => by
    obtain ⟨x1, y1, e⟩ := P2_is n w d c m x y
    rw [List.map_cons, List.all_cons, List.foldl_cons]
    cases hc : isD c with
    | true =>
      rw [hc] at e
      rw [forL_nx e]
      simpa using loop2 n w d l (m * 10 + (c - 48)) x1 y1
    | false =>
      rw [hc] at e
      rw [forL_ret e]
      exact ⟨m, x1, y1, rfl⟩
abbrev R2 : Ss := (.cons (.ife (.orT (.cmpT .Eq (.biv .len 1) (.int 0)) (.oneT (.cmpT .Gt (.biv .len 1) (.int 800)))) (.cons (.ret .non)
 .nil) .nil)
 (.cons (.set 2 (.int 0))
 (.cons (.forS (.nm 3) (.ov (.var 1)) B2)
 (.cons (.ife (.andT (.ev (.call 4 (.cons (.ixv 1 (.int 0)) (.cons (.str "0") .nil)))) (.oneT (.notT (.ev (.call 4 (.cons (.var 0) (.cons (.str "0") .nil))))))) (.cons (.ret .non)
 .nil) .nil)
 (.cons (.ife (.ev (.call 4 (.cons (.slc (.var 0) .none (.some (.int 1))) (.cons (.str "-") .nil)))) (.cons (.ret (.neg (.var 2)))
 .nil) .nil)
 (.cons (.ret (.var 2))
 .nil))))))
theorem call_number2 {w : Str} (hw : Ok w) (n : Nat) : ∃ o, pg.call (n + 2) true 14 [.str w] = .ret (oD (NW w)) o := by
  have hz := hw.size
  have hz2 := hw.dig.size
  rw [call_eq (n := n + 1) (d := d__law_number_word) rfl rfl]
  have p1 := pr2 (n := n) (i := 1) (by decide)
  have p2 := pr2 (n := n) (i := 2) (by decide)
  have minus : ∀ v : PI.Env, getV v 0 = some (.str w) → v.set 0 (some (.str w)) = v → evT (C2 n) (.ev (.call 4 (.cons (.slc (.var 0) .none (.some (.int 1))) (.cons (.str "-") .nil)))) v = .ok (negW w) v := fun v h1 h2 => by
    have hc : (C2 n).cf (C2 n).calm 4 [.str (L2.cutS w none (some 1)), .str "-"] = .ret (.bl (negW w)) _ := is_str (hw.cut _ _) okM.1 okM.2
    have := call_vals (C := C2 n) (v := v) (v1 := v) (es := .cons (.slc (.var 0) .none (.some (.int 1))) (.cons (.str "-") .nil)) (l := [.str (L2.cutS w none (some 1)), .str "-"]) (by simp [evA, evE, evO, rdV, h1, h2, PI.D.freeze, slcD, hz, toI]) hc
    simp only [evT, this, R.bind_ok, truthD, R.of_some]
  have h12 : exSs (C2 n) b__law_number_word [some (.str w), none, none, none, none] = exSs (C2 n) R2 [some (.str w), some (.str (digW w)), none, none, none] := by
    refine (seq_nx (v1 := [some (.str w), some (.str w), none, none, none]) (by simp [evE, evT, evC, evA, evO, evI, exS, exSs, getV, rdV, ixV, PI.D.freeze, biCalm, biF, binD_addI, binD_subI, cmpD, scalD, truthD, isNon, toI, toB, toS, callC, arVs, noDup, arD, arB, arAll, okR, R.of, R.bind, R.s, asT, p1])).trans ?_
    refine (seq_nx (v1 := [some (.str w), some (.str (digW w)), none, none, none]) ?_).trans rfl
    have hm := minus [some (.str w), some (.str w), none, none, none] rfl rfl
    by_cases hn : negW w = true
    · rw [hn] at hm
      refine (if_t hm).trans ?_
      simp [evE, evT, evC, evA, evO, evI, exS, exSs, getV, rdV, ixV, PI.D.freeze, biCalm, biF, binD_addI, binD_subI, cmpD, scalD, truthD, isNon, toI, toB, toS, callC, arVs, noDup, arD, arB, arAll, okR, R.of, R.bind, R.s, slcD, hz, asT, p1, digW, hn]
    · rw [Bool.eq_false_iff.mpr hn] at hm
      refine (if_f hm).trans ?_
      simp [evE, evT, evC, evA, evO, evI, exS, exSs, getV, rdV, ixV, PI.D.freeze, biCalm, biF, binD_addI, binD_subI, cmpD, scalD, truthD, isNon, toI, toB, toS, callC, arVs, noDup, arD, arB, arAll, okR, R.of, R.bind, R.s, digW, hn]
  show ∃ o, endC 1 (exSs (C2 n) b__law_number_word [some (.str w), none, none, none, none]) = .ret (oD (NW w)) o
  rw [h12]
  have he : (digW w).length = 0 ↔ (digW w).cps.toList = [] := by
    rw [← List.length_eq_zero_iff, len_list]
  by_cases g1 : (digW w).cps.toList = [] ∨ 800 < (digW w).length
  · have e : NW w = none := by unfold NW; rw [if_pos g1]
    rw [e]
    refine ⟨[some (.str w)], ?_⟩
    unfold R2
    rw [seq_ret (d := .non) (v1 := [some (.str w), some (.str (digW w)), none, none, none])]
    · rfl
    · by_cases g2 : (digW w).cps.toList = []
      · have g3 := he.mpr g2
        refine (if_t (v1 := [some (.str w), some (.str (digW w)), none, none, none]) (by simp [evE, evT, evC, evA, evO, evI, exS, exSs, getV, rdV, ixV, PI.D.freeze, biCalm, biF, binD_addI, binD_subI, cmpD, scalD, truthD, isNon, toI, toB, toS, callC, arVs, noDup, arD, arB, arAll, okR, R.of, R.bind, R.s, hz2, g3])).trans ?_
        simp [evE, evT, evC, evA, evO, evI, exS, exSs, getV, rdV, ixV, PI.D.freeze, biCalm, biF, binD_addI, binD_subI, cmpD, scalD, truthD, isNon, toI, toB, toS, callC, arVs, noDup, arD, arB, arAll, okR, R.of, R.bind, R.s]
      · have g3 : ¬ (digW w).length = 0 := fun h => g2 (he.mp h)
        have g4 : 800 < (digW w).length := g1.resolve_left g2
        have g5 : (800 : Int) < ((digW w).length : Int) := by omega
        refine (if_t (v1 := [some (.str w), some (.str (digW w)), none, none, none]) (by simp [evE, evT, evC, evA, evO, evI, exS, exSs, getV, rdV, ixV, PI.D.freeze, biCalm, biF, binD_addI, binD_subI, cmpD, scalD, truthD, isNon, toI, toB, toS, callC, arVs, noDup, arD, arB, arAll, okR, R.of, R.bind, R.s, hz2, g3, g5])).trans ?_
        simp [evE, evT, evC, evA, evO, evI, exS, exSs, getV, rdV, ixV, PI.D.freeze, biCalm, biF, binD_addI, binD_subI, cmpD, scalD, truthD, isNon, toI, toB, toS, callC, arVs, noDup, arD, arB, arAll, okR, R.of, R.bind, R.s]
  · have g1' := not_or.mp g1
    have g3 : ¬ (digW w).length = 0 := fun h => g1'.1 (he.mp h)
    have g4 : ¬ (800 : Int) < ((digW w).length : Int) := by
      have := g1'.2
      omega
    unfold R2
    rw [seq_nx (v1 := [some (.str w), some (.str (digW w)), none, none, none]) ((if_f (v1 := [some (.str w), some (.str (digW w)), none, none, none]) (by simp [evE, evT, evC, evA, evO, evI, exS, exSs, getV, rdV, ixV, PI.D.freeze, biCalm, biF, binD_addI, binD_subI, cmpD, scalD, truthD, isNon, toI, toB, toS, callC, arVs, noDup, arD, arB, arAll, okR, R.of, R.bind, R.s, hz2, g3, g4])).trans seq_nil)]
    rw [seq_nx (v1 := [some (.str w), some (.str (digW w)), some (.int 0), none, none]) (by simp [evE, evT, evC, evA, evO, evI, exS, exSs, getV, rdV, ixV, PI.D.freeze, biCalm, biF, binD_addI, binD_subI, cmpD, scalD, truthD, isNon, toI, toB, toS, callC, arVs, noDup, arD, arB, arAll, okR, R.of, R.bind, R.s, asT, p2])]
    obtain ⟨m', x', y', hl⟩ := loop2 n w (digW w) (digW w).cps.toList 0 none none
    have hsrc : evI (C2 n) (.ov (.var 1)) [some (.str w), some (.str (digW w)), some (.int 0), none, none] = .ok ((digW w).cps.toList.map fun c => .str ⟨#[c]⟩) [some (.str w), some (.str (digW w)), some (.int 0), none, none] := by simp [evE, evT, evC, evA, evO, evI, exS, exSs, getV, rdV, ixV, PI.D.freeze, biCalm, biF, binD_addI, binD_subI, cmpD, scalD, truthD, isNon, toI, toB, toS, callC, arVs, noDup, arD, arB, arAll, okR, R.of, R.bind, R.s, itemsD]
    cases g5 : (digW w).cps.toList.all isD with
    | false =>
      have e : NW w = none := by unfold NW; rw [if_neg g1, if_pos g5]
      rw [e]
      rw [g5] at hl
      refine ⟨[some (.str w)], ?_⟩
      rw [seq_ret (for_is rfl hsrc hl)]
      rfl
    | true =>
      rw [g5] at hl
      rw [seq_nx (for_is rfl hsrc hl)]
      obtain ⟨c, cs, hcs⟩ := List.exists_cons_of_ne_nil g1'.1
      have hat : L2.atI (digW w).cps.toList 0 = some c := by
        rw [hcs]
        simp [L2.atI, L2.ixN]
      have okc : Ok ⟨#[c]⟩ := hw.dig.one (c := c) (by rw [hcs]; simp)
      have hc48 : (⟨#[c]⟩ : Str) = "0" ↔ c = 48 := by
        have e0 : ("0" : Str) = ⟨#[48]⟩ := by decide +kernel
        rw [e0]
        simp
      generalize hM : ((List.foldl (fun acc c => acc * 10 + (c - 48)) 0 (digW w).cps.toList : Nat) : Int) = M
      have hM' : ((NumText.digitsVal (digW w).cps.toList : Nat) : Int) = M := hM
      let V : PI.Env := [some (.str w), some (.str (digW w)), some (.int M), x', y']
      have first : evT (C2 n) (.ev (.call 4 (.cons (.ixv 1 (.int 0)) (.cons (.str "0") .nil)))) V = .ok (decide (c = 48)) V := by
        have hcall : (C2 n).cf (C2 n).calm 4 [.str ⟨#[c]⟩, .str "0"] = .ret (.bl (decide ((⟨#[c]⟩ : Str) = "0"))) _ := is_str okc ok0.1 ok0.2
        have := call_vals (C := C2 n) (v := V) (v1 := V) (es := .cons (.ixv 1 (.int 0)) (.cons (.str "0") .nil)) (l := [.str ⟨#[c]⟩, .str "0"]) (by simp [V, evE, evT, evC, evA, evO, evI, exS, exSs, getV, rdV, ixV, PI.D.freeze, biCalm, biF, binD_addI, binD_subI, cmpD, scalD, truthD, isNon, toI, toB, toS, callC, arVs, noDup, arD, arB, arAll, okR, R.of, R.bind, R.s, PI.ixD, hz2, hat, PI.D.frozen]) hcall
        simp only [evT, this, R.bind_ok, truthD, R.of_some]
        simp only [hc48]
      have whole : evT (C2 n) (.oneT (.notT (.ev (.call 4 (.cons (.var 0) (.cons (.str "0") .nil)))))) V = .ok (!decide (w = "0")) V := by
        have hcall : (C2 n).cf (C2 n).calm 4 [.str w, .str "0"] = .ret (.bl (decide (w = "0"))) _ := is_str hw ok0.1 ok0.2
        have := call_vals (C := C2 n) (v := V) (v1 := V) (es := .cons (.var 0) (.cons (.str "0") .nil)) (l := [.str w, .str "0"]) (by simp [V, evE, evT, evC, evA, evO, evI, exS, exSs, getV, rdV, ixV, PI.D.freeze, biCalm, biF, binD_addI, binD_subI, cmpD, scalD, truthD, isNon, toI, toB, toS, callC, arVs, noDup, arD, arB, arAll, okR, R.of, R.bind, R.s]) hcall
        simp only [evT, this, R.bind_ok, truthD, R.of_some]
      have both : evT (C2 n) (.andT (.ev (.call 4 (.cons (.ixv 1 (.int 0)) (.cons (.str "0") .nil)))) (.oneT (.notT (.ev (.call 4 (.cons (.var 0) (.cons (.str "0") .nil))))))) V = .ok (decide (c = 48) && !decide (w = "0")) V := by
        rw [evT, first]
        simp only [R.bind_ok]
        cases decide (c = 48) with
        | true => simp only [if_true, whole, Bool.true_and]
        | false => simp
      by_cases g6 : (digW w).cps.toList.head? = some 48 ∧ w ≠ "0"
      · have e : NW w = none := by unfold NW; rw [if_neg g1, if_neg (by rw [g5]; simp), if_pos g6]
        rw [e]
        have g7 : c = 48 := by rw [hcs] at g6; simpa using g6.1
        have b2 : (decide (c = 48) && !decide (w = ("0" : Str))) = true := by simp [g7, g6.2]
        rw [b2] at both
        refine ⟨[some (.str w)], ?_⟩
        have hret : exSs (C2 n) (.cons (.ret .non) .nil) V = .ret .non V := by simp [evE, evT, evC, evA, evO, evI, exS, exSs, getV, rdV, ixV, PI.D.freeze, biCalm, biF, binD_addI, binD_subI, cmpD, scalD, truthD, isNon, toI, toB, toS, callC, arVs, noDup, arD, arB, arAll, okR, R.of, R.bind, R.s]
        have := seq_ret (r := (.cons (.ife (.ev (.call 4 (.cons (.slc (.var 0) .none (.some (.int 1))) (.cons (.str "-") .nil)))) (.cons (.ret (.neg (.var 2))) .nil) .nil) (.cons (.ret (.var 2)) .nil))) ((if_t (b := .nil) both).trans hret)
        refine (congrArg (endC 1) this).trans ?_
        rfl
      · have e : NW w = some (if negW w then -M else M) := by unfold NW; rw [if_neg g1, if_neg (by rw [g5]; simp), if_neg g6, hM']
        rw [e]
        have b2 : (decide (c = 48) && !decide (w = ("0" : Str))) = false := by
          by_cases g7 : c = 48
          · have g8 : w = "0" := by
              by_cases z : w = "0"
              · exact z
              · exact absurd ⟨by rw [hcs, g7]; rfl, z⟩ g6
            rw [decide_eq_true g8]
            simp
          · simp [g7]
        rw [b2] at both
        refine ⟨[some (.str w)], ?_⟩
        have hm := minus V rfl rfl
        have s1 := seq_nx (r := (.cons (.ife (.ev (.call 4 (.cons (.slc (.var 0) .none (.some (.int 1))) (.cons (.str "-") .nil)))) (.cons (.ret (.neg (.var 2))) .nil) .nil) (.cons (.ret (.var 2)) .nil))) ((if_f (a := .cons (.ret .non) .nil) both).trans seq_nil)
        refine (congrArg (endC 1) s1).trans ?_
        cases hn : negW w with
        | true =>
          rw [hn] at hm
          have s2 := seq_ret (r := .cons (.ret (.var 2)) .nil) (d := .int (-M)) (v1 := V) ((if_t (a := .cons (.ret (.neg (.var 2))) .nil) (b := .nil) hm).trans (by simp [V, evE, evT, evC, evA, evO, evI, exS, exSs, getV, rdV, ixV, PI.D.freeze, biCalm, biF, binD_addI, binD_subI, cmpD, scalD, truthD, isNon, toI, toB, toS, callC, arVs, noDup, arD, arB, arAll, okR, R.of, R.bind, R.s]))
          refine (congrArg (endC 1) s2).trans ?_
          rfl
        | false =>
          rw [hn] at hm
          have s2 := seq_nx (r := .cons (.ret (.var 2)) .nil) ((if_f (a := .cons (.ret (.neg (.var 2))) .nil) (b := .nil) hm).trans seq_nil)
          refine (congrArg (endC 1) s2).trans ?_
          have s3 : exSs (C2 n) (.cons (.ret (.var 2)) .nil) V = .ret (.int M) V := by simp [V, evE, evT, evC, evA, evO, evI, exS, exSs, getV, rdV, ixV, PI.D.freeze, biCalm, biF, binD_addI, binD_subI, cmpD, scalD, truthD, isNon, toI, toB, toS, callC, arVs, noDup, arD, arB, arAll, okR, R.of, R.bind, R.s]
          refine (congrArg (endC 1) s3).trans ?_
          rfl
end PI.KK
namespace PI.KK
open PySem K84
/-! ### the greatest common divisor -/
abbrev C3 (n : Nat) : PI.Ctx := pg.ctx (pg.call n) true d__law_gcd
theorem pr3 {n i : Nat} : (C3 n).pr i = false := by
  match i with
  | 0 | 1 => rfl
  | i + 2 =>
    have h : (decide (i + 2 < 2) && !(([true, true] : List Bool).getD (i + 2) false)) = false := by
      rw [decide_eq_false (by omega)]
      rfl
    show ((C3 n).fix (i + 2) || false) = false
    rw [show (C3 n).fix (i + 2) = false from h]
    rfl
theorem call_gcd {a b : Int} (hb : b.natAbs < 2 ^ 9000) (n : Nat) : ∃ o, pg.call (n + 1) true 8 [.int a, .int b] = .ret (.int (Nat.gcd a.natAbs b.natAbs : Nat)) o := by
  rw [call_eq (d := d__law_gcd) rfl rfl]
  have ab : ∀ i : Int, biF .abs [.int i] = some (.int (i.natAbs : Nat)) := fun i => by
    have : (if i < 0 then -i else i) = (i.natAbs : Int) := by split <;> omega
    simp only [biF, this]
  let v1 : PI.Env := [some (.int (a.natAbs : Nat)), some (.int b), none, none]
  let v2 : PI.Env := [some (.int (a.natAbs : Nat)), some (.int (b.natAbs : Nat)), none, none]
  have s1 : exS (C3 n) (.set 0 (.biv .abs 0)) [some (.int a), some (.int b), none, none] = .nx v1 := set_is (i := 0) (ev_biv (d := .int (a.natAbs : Nat)) rfl rfl (ab a)) pr3
  have s2 : exS (C3 n) (.set 1 (.biv .abs 1)) v1 = .nx v2 := set_is (i := 1) (ev_biv (d := .int (b.natAbs : Nat)) rfl rfl (ab b)) pr3
  obtain ⟨b', x', y', hl⟩ := loopG (C3 n) (fun i _ => pr3) ((List.range 20000).map fun (k : Nat) => PI.D.int k) a.natAbs b.natAbs none none
  have hlen : ((List.range 20000).map fun (k : Nat) => PI.D.int k).length = 20000 := by rw [List.length_map, List.length_range]
  rw [hlen] at hl
  generalize hL : ((List.range 20000).map fun (k : Nat) => PI.D.int k) = L at hl
  rw [euc_gcd 9000 20000 _ _ hb (by decide)] at hl
  have hsrc : evI (C3 n) (.rng (.cons (.int 20000) .nil)) v2 = .ok L v2 := by
    have hr : rngD [.int 20000] = some ((List.range (20000 : Int).toNat).map fun (k : Nat) => PI.D.int k) := by
      unfold rngD
      exact if_pos ⟨by decide, by decide⟩
    simp only [evI, evA, evE, R.bind_ok, arAll, Option.map_some, R.of_some, hr]
    rw [← hL]
    rfl
  refine ⟨?_, ?_⟩
  rotate_left
  · show endC 2 (exSs (C3 n) b__law_gcd [some (.int a), some (.int b), none, none]) = _
    unfold b__law_gcd
    rw [seq_nx s1, seq_nx s2, seq_nx (for_is rfl hsrc hl), seq_ret (ret_is (ev_var (i := 0) (d := .int (Nat.gcd a.natAbs b.natAbs : Nat)) rfl rfl rfl))]
    rfl
end PI.KK
namespace PI.KK
open PySem K84
theorem digitsVal_lt : ∀ (l : List Nat) (m : Nat), NumText.AllDigits l → l.foldl (fun acc c => acc * 10 + (c - 48)) m < (m + 1) * 10 ^ l.length
  | [], m, _ => by simp
  | c :: l, m, h => by
    rw [List.foldl_cons]
    have h1 := digitsVal_lt l (m * 10 + (c - 48)) h.tail
    have h2 := h.head
    have h3 : (m * 10 + (c - 48) + 1) * 10 ^ l.length ≤ ((m + 1) * 10) * 10 ^ l.length := Nat.mul_le_mul_right _ (by omega)
    rw [List.length_cons, Nat.pow_succ, Nat.mul_comm (10 ^ l.length) 10, ← Nat.mul_assoc]
    omega
theorem pow800 : 10 ^ 800 < 2 ^ 9000 := by decide +kernel
theorem NW_bound {w : Str} {i : Int} (h : NW w = some i) : i.natAbs < 10 ^ 800 := by
  unfold NW at h
  split at h
  · cases h
  · rename_i g1
    split at h
    · cases h
    · rename_i g2
      split at h
      · cases h
      · have hd : NumText.AllDigits (digW w).cps.toList := all_isD.mp (by simpa using g2)
        have h1 : NumText.digitsVal (digW w).cps.toList < (0 + 1) * 10 ^ (digW w).cps.toList.length := digitsVal_lt _ 0 hd
        rw [len_list] at h1
        have h2 : (digW w).length ≤ 800 := Nat.not_lt.mp (not_or.mp g1).2
        have h3 : 10 ^ (digW w).length ≤ 10 ^ 800 := Nat.pow_le_pow_right (by decide) h2
        generalize 10 ^ 800 = B at h3 ⊢
        generalize 10 ^ (digW w).length = B' at h1 h3
        have h4 : i.natAbs = NumText.digitsVal (digW w).cps.toList := by
          cases hn : negW w <;> rw [hn] at h <;> simp only [Option.some.injEq, if_true, Bool.false_eq_true, if_false] at h <;> omega
        omega
theorem NW_big {w : Str} {i : Int} (h : NW w = some i) : i.natAbs < 2 ^ 9000 := Nat.lt_trans (NW_bound h) pow800
/-! ### fractions -/
def topW (w : Str) (i : Nat) : Str := Builtin.Str.strSub w 0 i
def botW (w : Str) (i : Nat) : Str := Builtin.Str.strSub w (i + 1) w.length
def occW (w : Str) : List Nat := Builtin.Str.occurrences w "/" 0 w.length 1
def FW (w : Str) : Option (Int × Int) := match occW w with
  | [] => (NW w).map fun a => (a, 1)
  | i :: _ => match NW (topW w i), NW (botW w i) with
    | some a, some b => if b < 2 ∨ Nat.gcd a.natAbs b.natAbs ≠ 1 then none else some (a, b)
    | _, _ => none
def oR : Option (Int × Int) → PI.D
  | some (a, b) => .tup [.int a, .int b]
  | none => .non
theorem Ok.sub {w : Str} (h : Ok w) (i j : Nat) : Ok (Builtin.Str.strSub w i j) := by
  have e := StrLaws.strSub_toList w i j
  refine ⟨?_, fun c hc => h.low c ?_⟩
  · rw [← len_list, e, List.length_take, List.length_drop, len_list]
    have := h.len
    omega
  · rw [e] at hc
    exact List.mem_of_mem_drop (List.mem_of_mem_take hc)
theorem slash_len : ("/" : Str).length = 1 := by decide +kernel
theorem occ_some {w : Str} {i : Nat} {r : List Nat} (h : occW w = i :: r) : i + 1 ≤ w.length := by
  rcases StrLaws.occ_head w "/" 1 (Nat.le_refl _) with ⟨e, _⟩ | ⟨j, r', e, ha, _⟩
  · unfold occW at h
    rw [e] at h
    cases h
  · unfold occW at h
    rw [e] at h
    cases h
    have := ha.1
    rw [slash_len] at this
    exact this
theorem cut_top {w : Str} {i : Nat} (h : i + 1 ≤ w.length) : L2.cutS w none (some (i : Int)) = topW w i := by
  apply str_ext
  unfold topW L2.cutS
  rw [StrLaws.strSub_toList, HT.sIx_nat, HT.sIx_none, List.toList_toArray, Nat.min_eq_left (by omega)]
theorem cut_bot {w : Str} {i : Nat} (h : i + 1 ≤ w.length) : L2.cutS w (some ((i : Int) + 1)) none = botW w i := by
  apply str_ext
  unfold botW L2.cutS
  have e : ((i : Int) + 1) = ((i + 1 : Nat) : Int) := by omega
  rw [StrLaws.strSub_toList, e, HT.sIx_nat, HT.sIx_none, List.toList_toArray, Nat.min_eq_left h]
abbrev C4 (n : Nat) : PI.Ctx := pg.ctx (pg.call (n + 1)) true d_read_ratio
theorem pr4 {n i : Nat} (h : i ≠ 0) : (C4 n).pr i = false := by
  simp [Ctx.pr, Prg.ctx, d_read_ratio, h]
theorem call_read {w : Str} (hw : Ok w) (n : Nat) : ∃ o, pg.call (n + 2) true 1 [.str w] = .ret (oR (FW w)) o := by
  have hz := hw.size
  rw [call_eq (n := n + 1) (d := d_read_ratio) rfl rfl]
  have p1 := pr4 (n := n) (i := 1) (by decide)
  have p2 := pr4 (n := n) (i := 2) (by decide)
  have p3 := pr4 (n := n) (i := 3) (by decide)
  have p4 := pr4 (n := n) (i := 4) (by decide)
  have p5 := pr4 (n := n) (i := 5) (by decide)
  show ∃ o, endC 1 (exSs (C4 n) b_read_ratio [some (.str w), none, none, none, none, none]) = .ret (oR (FW w)) o
  have hpart : ∀ a b c : Str, Txt.partition w "/" = (a, b, c) → exS (C4 n) (.unp [3, 4, 5] (.bm .partition (.var 0) (.cons (.str "/") .nil))) [some (.str w), none, none, none, none, none] = .nx [some (.str w), none, none, some (.str a), some (.str b), some (.str c)] := fun a b c h => by
    have hs : ("/" : Str).length ≠ 0 ∧ w.length ≤ sizeLine := ⟨by rw [slash_len]; decide, hz⟩
    simp [exS, evE, evA, rdV, getV, PI.D.freeze, toS, arAll, bmF, hs, h, asT, PI.D.frozenL, PI.D.frozen, p3, p4, p5, setAll]
    rfl
  have num : ∀ (v : PI.Env) (j : Nat) (t : Str), Ok t → getV v j = some (.str t) → v.set j (some (.str t)) = v → evE (C4 n) (.call 0 (.cons (.var j) .nil)) v = .ok (oD (NW t)) v := fun v j t ht h1 h2 => by
    obtain ⟨o, ho⟩ := call_number ht.len n
    exact call_vals (l := [.str t]) (by simp only [evA, ev_var h1 rfl h2, R.bind_ok]; rfl) ho
  let V (a b c : Str) (x y : Option PI.D) : PI.Env := [some (.str w), x, y, some (.str a), some (.str b), some (.str c)]
  -- up to the first number
  have upto : ∀ a b c : Str, Ok a → Txt.partition w "/" = (a, b, c) → exSs (C4 n) b_read_ratio [some (.str w), none, none, none, none, none] = exSs (C4 n) (.cons (.ife (.cmpT .Is (.var 1) .non) (.cons (.ret .non) .nil) .nil)
     (.cons (.ife (.notT (.ev (.var 4))) (.cons (.ret (.tup (.cons (.var 1) (.cons (.int 1) .nil)))) .nil) .nil)
     (.cons (.set 2 (.call 0 (.cons (.var 5) .nil)))
     (.cons (.ife (.orT (.cmpT .Is (.var 2) .non) (.orT (.cmpT .Lt (.var 2) (.int 2)) (.oneT (.cmpT .NotEq (.bi .gcd (.cons (.var 1) (.cons (.var 2) .nil))) (.int 1))))) (.cons (.ret .non) .nil) .nil)
     (.cons (.ret (.tup (.cons (.var 1) (.cons (.var 2) .nil)))) .nil))))) (V a b c (some (oD (NW a))) none) := fun a b c ha h => by
    unfold b_read_ratio
    rw [seq_nx (hpart a b c h)]
    rw [seq_nx (set_is (i := 1) (num [some (.str w), none, none, some (.str a), some (.str b), some (.str c)] 3 a ha rfl rfl) p1)]
    rfl
  have noneRet : ∀ (v : PI.Env), exSs (C4 n) (.cons (.ret .non) .nil) v = .ret .non v := fun v => by simp [exSs, exS, evE]
  cases ho : occW w with
  | nil =>
    have hp : Txt.partition w "/" = (w, Str.empty, Str.empty) := by unfold Txt.partition; rw [show Builtin.Str.occurrences w "/" 0 w.length 1 = [] from ho]
    rw [upto _ _ _ hw hp]
    have hF : FW w = (NW w).map fun a => (a, 1) := by unfold FW; rw [ho]
    rw [hF]
    cases hN : NW w with
    | none =>
      refine ⟨[some (.str w)], ?_⟩
      rw [seq_ret ((if_t (v1 := V w Str.empty Str.empty (some .non) none) (by simp [V, oD, evE, evT, evC, evA, evO, evI, exS, exSs, getV, rdV, ixV, PI.D.freeze, biCalm, biF, binD_addI, binD_subI, cmpD, scalD, truthD, isNon, toI, toB, toS, callC, arVs, noDup, arD, arB, arAll, okR, R.of, R.bind, R.s])).trans (noneRet _))]
      rfl
    | some a =>
      refine ⟨[some (.str w)], ?_⟩
      rw [seq_nx ((if_f (v1 := V w Str.empty Str.empty (some (.int a)) none) (by simp [V, oD, evE, evT, evC, evA, evO, evI, exS, exSs, getV, rdV, ixV, PI.D.freeze, biCalm, biF, binD_addI, binD_subI, cmpD, scalD, truthD, isNon, toI, toB, toS, callC, arVs, noDup, arD, arB, arAll, okR, R.of, R.bind, R.s])).trans seq_nil)]
      rw [seq_ret (d := .tup [.int a, .int 1]) (v1 := V w Str.empty Str.empty (some (.int a)) none) ((if_t (v1 := V w Str.empty Str.empty (some (.int a)) none) (by simp [V, evE, evT, evC, evA, evO, evI, exS, exSs, getV, rdV, ixV, PI.D.freeze, biCalm, biF, binD_addI, binD_subI, cmpD, scalD, truthD, isNon, toI, toB, toS, callC, arVs, noDup, arD, arB, arAll, okR, R.of, R.bind, R.s, Str.length, Str.empty])).trans (by simp [V, evE, evT, evC, evA, evO, evI, exS, exSs, getV, rdV, ixV, PI.D.freeze, biCalm, biF, binD_addI, binD_subI, cmpD, scalD, truthD, isNon, toI, toB, toS, callC, arVs, noDup, arD, arB, arAll, okR, R.of, R.bind, R.s, sizeLine_eq]))]
      rfl
  | cons i r =>
    have hi := occ_some ho
    have hp : Txt.partition w "/" = (topW w i, ("/" : Str), botW w i) := by
      unfold Txt.partition
      rw [show Builtin.Str.occurrences w "/" 0 w.length 1 = i :: r from ho]
      simp only [slash_len]
      rfl
    rw [upto (topW w i) _ _ (hw.sub _ _) hp]
    have hF : FW w = match NW (topW w i), NW (botW w i) with
      | some a, some b => if b < 2 ∨ Nat.gcd a.natAbs b.natAbs ≠ 1 then none else some (a, b)
      | _, _ => none := by unfold FW; rw [ho]
    rw [hF]
    cases hN : NW (topW w i) with
    | none =>
      refine ⟨[some (.str w)], ?_⟩
      rw [seq_ret ((if_t (v1 := V (topW w i) "/" (botW w i) (some .non) none) (by simp [V, oD, evE, evT, evC, evA, evO, evI, exS, exSs, getV, rdV, ixV, PI.D.freeze, biCalm, biF, binD_addI, binD_subI, cmpD, scalD, truthD, isNon, toI, toB, toS, callC, arVs, noDup, arD, arB, arAll, okR, R.of, R.bind, R.s])).trans (noneRet _))]
      rfl
    | some a =>
      rw [seq_nx ((if_f (v1 := V (topW w i) "/" (botW w i) (some (.int a)) none) (by simp [V, oD, evE, evT, evC, evA, evO, evI, exS, exSs, getV, rdV, ixV, PI.D.freeze, biCalm, biF, binD_addI, binD_subI, cmpD, scalD, truthD, isNon, toI, toB, toS, callC, arVs, noDup, arD, arB, arAll, okR, R.of, R.bind, R.s])).trans seq_nil)]
      rw [seq_nx ((if_f (v1 := V (topW w i) "/" (botW w i) (some (.int a)) none) (by simp [V, evE, evT, evC, evA, evO, evI, exS, exSs, getV, rdV, ixV, PI.D.freeze, biCalm, biF, binD_addI, binD_subI, cmpD, scalD, truthD, isNon, toI, toB, toS, callC, arVs, noDup, arD, arB, arAll, okR, R.of, R.bind, R.s, slash_len, sizeLine_eq])).trans seq_nil)]
      rw [seq_nx (set_is (i := 2) (num (V (topW w i) "/" (botW w i) (some (.int a)) none) 5 (botW w i) (hw.sub _ _) rfl rfl) p2)]
      cases hM : NW (botW w i) with
      | none =>
        refine ⟨[some (.str w)], ?_⟩
        rw [seq_ret ((if_t (v1 := V (topW w i) "/" (botW w i) (some (.int a)) (some .non)) (by simp [V, oD, evE, evT, evC, evA, evO, evI, exS, exSs, getV, rdV, ixV, PI.D.freeze, biCalm, biF, binD_addI, binD_subI, cmpD, scalD, truthD, isNon, toI, toB, toS, callC, arVs, noDup, arD, arB, arAll, okR, R.of, R.bind, R.s])).trans (noneRet _))]
        rfl
      | some b =>
        refine ⟨[some (.str w)], ?_⟩
        let U := V (topW w i) "/" (botW w i) (some (.int a)) (some (.int b))
        have gev : evE (C4 n) (.bi .gcd (.cons (.var 1) (.cons (.var 2) .nil))) U = .ok (.int (Nat.gcd a.natAbs b.natAbs : Nat)) U := by
          have e1 : evE (C4 n) (.var 1) U = .ok (.int a) U := ev_var rfl rfl rfl
          have e2 : evE (C4 n) (.var 2) U = .ok (.int b) U := ev_var rfl rfl rfl
          exact ev_bi (as := [.d (.int a), .d (.int b)]) (l := [.int a, .int b]) rfl (by simp only [evA, e1, e2, R.bind_ok]) rfl rfl
        have tests : evT (C4 n) (.orT (.cmpT .Is (.var 2) .non) (.orT (.cmpT .Lt (.var 2) (.int 2)) (.oneT (.cmpT .NotEq (.bi .gcd (.cons (.var 1) (.cons (.var 2) .nil))) (.int 1))))) U = .ok (decide (b < 2 ∨ Nat.gcd a.natAbs b.natAbs ≠ 1)) U := by
          have t1 : evT (C4 n) (.cmpT .Is (.var 2) .non) U = .ok false U := by simp [U, V, evE, evT, evC, evA, evO, evI, exS, exSs, getV, rdV, ixV, PI.D.freeze, biCalm, biF, binD_addI, binD_subI, cmpD, scalD, truthD, isNon, toI, toB, toS, callC, arVs, noDup, arD, arB, arAll, okR, R.of, R.bind, R.s]
          have t2 : evT (C4 n) (.cmpT .Lt (.var 2) (.int 2)) U = .ok (decide (b < 2)) U := by simp [U, V, evE, evT, evC, evA, evO, evI, exS, exSs, getV, rdV, ixV, PI.D.freeze, biCalm, biF, binD_addI, binD_subI, cmpD, scalD, truthD, isNon, toI, toB, toS, callC, arVs, noDup, arD, arB, arAll, okR, R.of, R.bind, R.s]
          have t3 : evT (C4 n) (.oneT (.cmpT .NotEq (.bi .gcd (.cons (.var 1) (.cons (.var 2) .nil))) (.int 1))) U = .ok (!decide (((Nat.gcd a.natAbs b.natAbs : Nat) : Int) = 1)) U := by
            exact ev_one.trans (ev_cmpT (co := .NotEq) gev (show evE (C4 n) (.int 1) U = .ok (.int 1) U from by simp only [evE]) rfl)
          rw [ev_or_f t1]
          by_cases hb : b < 2
          · rw [decide_eq_true hb] at t2
            rw [ev_or_t t2, decide_eq_true (Or.inl hb)]
          · rw [decide_eq_false hb] at t2
            rw [ev_or_f t2, t3]
            by_cases hg : Nat.gcd a.natAbs b.natAbs = 1
            · rw [decide_eq_true (show ((Nat.gcd a.natAbs b.natAbs : Nat) : Int) = 1 by rw [hg]; rfl), decide_eq_false (by rintro (z | z) <;> contradiction)]
              rfl
            · rw [decide_eq_false (show ¬ ((Nat.gcd a.natAbs b.natAbs : Nat) : Int) = 1 by omega), decide_eq_true (Or.inr hg)]
              rfl
        by_cases hq : b < 2 ∨ Nat.gcd a.natAbs b.natAbs ≠ 1
        · rw [decide_eq_true hq] at tests
          have := seq_ret (r := (.cons (.ret (.tup (.cons (.var 1) (.cons (.var 2) .nil)))) .nil)) ((if_t (b := .nil) tests).trans (noneRet U))
          refine (congrArg (endC 1) this).trans ?_
          simp only [if_pos hq]
          rfl
        · rw [decide_eq_false hq] at tests
          have := seq_nx (r := (.cons (.ret (.tup (.cons (.var 1) (.cons (.var 2) .nil)))) .nil)) ((if_f (a := .cons (.ret .non) .nil) tests).trans seq_nil)
          refine (congrArg (endC 1) this).trans ?_
          have s3 : exSs (C4 n) (.cons (.ret (.tup (.cons (.var 1) (.cons (.var 2) .nil)))) .nil) U = .ret (.tup [.int a, .int b]) U := by simp [U, V, evE, evT, evC, evA, evO, evI, exS, exSs, getV, rdV, ixV, PI.D.freeze, biCalm, biF, binD_addI, binD_subI, cmpD, scalD, truthD, isNon, toI, toB, toS, callC, arVs, noDup, arD, arB, arAll, okR, R.of, R.bind, R.s, sizeLine_eq]
          refine (congrArg (endC 1) s3).trans ?_
          simp only [if_neg hq]
          rfl
end PI.KK
namespace PI.KK
open PySem K84
abbrev C5 (n : Nat) : PI.Ctx := pg.ctx (pg.call (n + 2)) true d_parse_ratio
theorem call_parse {w : Str} (hw : Ok w) (n : Nat) : ∃ o, pg.call (n + 3) true 2 [.str w] = match FW w with
    | some (a, b) => .ret (.tup [.int a, .int b]) o
    | none => .exc 16 [("word", .str w)] o := by
  rw [call_eq (n := n + 2) (d := d_parse_ratio) rfl rfl]
  have p1 : (C5 n).pr 1 = false := by simp [Ctx.pr, Prg.ctx, d_parse_ratio]
  refine ⟨[some (.str w)], ?_⟩
  show endC 1 (exSs (C5 n) b_parse_ratio [some (.str w), none]) = _
  obtain ⟨o, ho⟩ := call_read hw n
  have s1 : exS (C5 n) (.set 1 (.call 1 (.cons (.var 0) .nil))) [some (.str w), none] = .nx [some (.str w), some (oR (FW w))] :=
    set_is (i := 1) (call_vals (l := [.str w]) (v1 := [some (.str w), none]) (by simp only [evA, ev_var (i := 0) (C := C5 n) (v := [some (.str w), none]) (d := .str w) rfl rfl rfl, R.bind_ok]; rfl) ho) p1
  unfold b_parse_ratio
  rw [seq_nx s1]
  cases hF : FW w with
  | none =>
    rw [seq_exc (c := 16) (fs := [("word", .str w)]) (v1 := [some (.str w), some .non])]
    · rfl
    · refine (if_t (v1 := [some (.str w), some .non]) (by simp [oR, evE, evT, evC, evA, evO, evI, exS, exSs, getV, rdV, ixV, PI.D.freeze, biCalm, biF, binD_addI, binD_subI, cmpD, scalD, truthD, isNon, toI, toB, toS, callC, arVs, noDup, arD, arB, arAll, okR, R.of, R.bind, R.s])).trans ?_
      refine seq_exc ?_
      have h1 : ((C5 n).calm && (C5 n).rcs.contains 16) = true := rfl
      have h2 : evA (C5 n) (.cons (.var 0) .nil) [some (.str w), some .non] = .ok [.d (.str w)] [some (.str w), some .non] := by simp only [evA, ev_var (i := 0) (C := C5 n) (v := [some (.str w), some .non]) (d := .str w) rfl rfl rfl, R.bind_ok]
      simp only [exS, h1, if_true, h2, R.s_ok, arAll, Option.map_some, R.of_some]
      rfl
  | some ab =>
    obtain ⟨a, b⟩ := ab
    rw [seq_nx ((if_f (v1 := [some (.str w), some (.tup [.int a, .int b])]) (by simp [oR, evE, evT, evC, evA, evO, evI, exS, exSs, getV, rdV, ixV, PI.D.freeze, biCalm, biF, binD_addI, binD_subI, cmpD, scalD, truthD, isNon, toI, toB, toS, callC, arVs, noDup, arD, arB, arAll, okR, R.of, R.bind, R.s, PI.D.freezeL])).trans seq_nil)]
    rw [seq_ret (ret_is (ev_var (i := 1) (d := .tup [.int a, .int b]) rfl (by simp [PI.D.freeze, PI.D.freezeL]) rfl))]
    rfl
/-! ### numbers told apart -/
theorem ofString_inj {a b : String} (h : (Str.ofString a) = Str.ofString b) : a = b := by
  have h1 := congrArg (fun s : Str => s.cps.toList) h
  simp only [PyProof.Rows.signs_ofString] at h1
  have h2 : a.toList = b.toList := by
    have inj : ∀ l r : List Char, l.map Char.toNat = r.map Char.toNat → l = r := by
      intro l
      induction l with
      | nil => intro r h; cases r <;> simp at h ⊢
      | cons c l ih =>
        intro r h
        cases r with
        | nil => simp at h
        | cons d r =>
          simp only [List.map_cons, List.cons.injEq] at h
          rw [Char.toNat_inj.mp h.1, ih r h.2]
    exact inj _ _ h1
  exact String.toList_inj.mp h2
theorem int_inj {i j : Int} : ((PyData.int i).shown = (PyData.int j).shown) = (i = j) := propext ⟨fun h => Int.repr_injective (ofString_inj h), fun h => by rw [h]⟩
theorem pow_dig : 2 ^ 9000 < digLim := by rw [digLim_def]; decide +kernel
theorem int_len {i : Int} (h : i.natAbs < digLim) : (PyData.int i).shown.length ≤ sizeLine := by
  rw [digLim_def] at h
  exact int_text_fits10 h
theorem is_int {n : Nat} {calm : Bool} {i j : Int} (hi : i.natAbs < digLim) (hj : j.natAbs < digLim) : pg.call (n + 1) calm 4 [.int i, .int j] = .ret (.bl (decide (i = j))) [some (.int i), some (.int j)] := by
  rw [call_is (p := .int i) (q := .int j) rfl rfl (decide_eq_true hi) (decide_eq_true hj) (by simp [PyData.depth]) (by simp [PyData.depth]) (int_len hi) (int_len hj)]
  simp only [int_inj]
end PI.KK
namespace PI.KK
open PySem K84
abbrev C6 (n : Nat) : PI.Ctx := pg.ctx (pg.call (n + 2)) true d__law_fraction_word
theorem pr6 {n i : Nat} (h : i ≠ 0) : (C6 n).pr i = false := by
  simp [Ctx.pr, Prg.ctx, d__law_fraction_word, h]
theorem gcd_dig {a b : Nat} (ha : a < 10 ^ 800) : Nat.gcd a b < digLim ∨ a = 0 := by
  by_cases h : a = 0
  · exact .inr h
  · left
    have h1 := Nat.gcd_le_left b (Nat.pos_of_ne_zero h)
    have h2 := pow_dig
    have h3 := pow800
    omega
theorem call_fword {w : Str} (hw : Ok w) (n : Nat) : ∃ o, pg.call (n + 3) true 15 [.str w] = .ret (oR (FW w)) o := by
  have hz := hw.size
  rw [call_eq (n := n + 2) (d := d__law_fraction_word) rfl rfl]
  have p1 := pr6 (n := n) (i := 1) (by decide)
  have p2 := pr6 (n := n) (i := 2) (by decide)
  have p3 := pr6 (n := n) (i := 3) (by decide)
  have p4 := pr6 (n := n) (i := 4) (by decide)
  refine ⟨[some (.str w)], ?_⟩
  show endC 1 (exSs (C6 n) b__law_fraction_word [some (.str w), none, none, none, none]) = _
  have noneRet : ∀ (v : PI.Env), exSs (C6 n) (.cons (.ret .non) .nil) v = .ret .non v := fun v => by simp [exSs, exS, evE]
  have s1 : exS (C6 n) (.set 1 (.bm .find (.var 0) (.cons (.str "/") .nil))) [some (.str w), none, none, none, none] = .nx [some (.str w), some (.int (Txt.find w "/")), none, none, none] :=
    set_is (i := 1) (v1 := [some (.str w), none, none, none, none]) (by simp [evE, evA, rdV, getV, PI.D.freeze, toS, arAll, bmF]) p1
  have num : ∀ (v : PI.Env) (e : E) (t : Str), Ok t → evE (C6 n) e v = .ok (.str t) v → evE (C6 n) (.call 14 (.cons e .nil)) v = .ok (oD (NW t)) v := fun v e t ht he => by
    obtain ⟨o, ho⟩ := call_number2 ht n
    exact call_vals (l := [.str t]) (by simp only [evA, he, R.bind_ok]; rfl) ho
  unfold b__law_fraction_word
  rw [seq_nx s1]
  cases ho : occW w with
  | nil =>
    have hf : Txt.find w "/" = -1 := by unfold Txt.find; rw [show Builtin.Str.occurrences w "/" 0 w.length 1 = [] from ho]
    rw [hf]
    have hF : FW w = (NW w).map fun a => (a, 1) := by unfold FW; rw [ho]
    rw [hF]
    let v1 : PI.Env := [some (.str w), some (.int (-1)), none, none, none]
    have t1 : evT (C6 n) (.cmpT .Lt (.var 1) (.int 0)) v1 = .ok true v1 := ev_cmpT (y := .int 0) (ev_var (d := .int (-1)) rfl rfl rfl) (by simp only [evE]) rfl
    let v2 : PI.Env := [some (.str w), some (.int (-1)), none, none, some (oD (NW w))]
    have s2 : exS (C6 n) (.set 4 (.call 14 (.cons (.var 0) .nil))) v1 = .nx v2 := set_is (i := 4) (num v1 (.var 0) w hw (ev_var rfl rfl rfl)) p4
    cases hN : NW w with
    | none =>
      have s3 : exSs (C6 n) (.cons (.set 4 (.call 14 (.cons (.var 0) .nil))) (.cons (.ife (.cmpT .Is (.var 4) .non) (.cons (.ret .non) .nil) .nil) (.cons (.ret (.tup (.cons (.var 4) (.cons (.int 1) .nil)))) .nil))) v1 = .ret .non v2 := by
        rw [seq_nx s2, seq_ret ((if_t (v1 := v2) (by simp [v2, hN, oD, evE, evT, evC, evA, evO, evI, exS, exSs, getV, rdV, ixV, PI.D.freeze, biCalm, biF, binD_addI, binD_subI, cmpD, scalD, truthD, isNon, toI, toB, toS, callC, arVs, noDup, arD, arB, arAll, okR, R.of, R.bind, R.s])).trans (noneRet _))]
      rw [seq_ret ((if_t t1).trans s3)]
      rfl
    | some a =>
      have s3 : exSs (C6 n) (.cons (.set 4 (.call 14 (.cons (.var 0) .nil))) (.cons (.ife (.cmpT .Is (.var 4) .non) (.cons (.ret .non) .nil) .nil) (.cons (.ret (.tup (.cons (.var 4) (.cons (.int 1) .nil)))) .nil))) v1 = .ret (.tup [.int a, .int 1]) v2 := by
        rw [seq_nx s2, seq_nx ((if_f (v1 := v2) (by simp [v2, hN, oD, evE, evT, evC, evA, evO, evI, exS, exSs, getV, rdV, ixV, PI.D.freeze, biCalm, biF, binD_addI, binD_subI, cmpD, scalD, truthD, isNon, toI, toB, toS, callC, arVs, noDup, arD, arB, arAll, okR, R.of, R.bind, R.s])).trans seq_nil), seq_ret (d := .tup [.int a, .int 1]) (v1 := v2)]
        simp [v2, hN, oD, evE, evT, evC, evA, evO, evI, exS, exSs, getV, rdV, ixV, PI.D.freeze, biCalm, biF, binD_addI, binD_subI, cmpD, scalD, truthD, isNon, toI, toB, toS, callC, arVs, noDup, arD, arB, arAll, okR, R.of, R.bind, R.s, sizeLine_eq]
      rw [seq_ret ((if_t t1).trans s3)]
      rfl
  | cons i r =>
    have hi := occ_some ho
    have hf : Txt.find w "/" = (i : Int) := by unfold Txt.find; rw [show Builtin.Str.occurrences w "/" 0 w.length 1 = i :: r from ho]
    rw [hf]
    have hF : FW w = match NW (topW w i), NW (botW w i) with
      | some a, some b => if b < 2 ∨ Nat.gcd a.natAbs b.natAbs ≠ 1 then none else some (a, b)
      | _, _ => none := by unfold FW; rw [ho] <;> rfl
    rw [hF]
    let v1 : PI.Env := [some (.str w), some (.int i), none, none, none]
    have t1 : evT (C6 n) (.cmpT .Lt (.var 1) (.int 0)) v1 = .ok false v1 := ev_cmpT (y := .int 0) (ev_var (d := .int i) rfl rfl rfl) (by simp only [evE]) (by simp [cmpD])
    rw [seq_nx ((if_f t1).trans seq_nil)]
    let v2 : PI.Env := [some (.str w), some (.int i), some (oD (NW (topW w i))), none, none]
    have e2 : evE (C6 n) (.slc (.var 0) .none (.some (.var 1))) v1 = .ok (.str (topW w i)) v1 := by
      simp [v1, evE, evT, evC, evA, evO, evI, exS, exSs, getV, rdV, ixV, PI.D.freeze, biCalm, biF, binD_addI, binD_subI, cmpD, scalD, truthD, isNon, toI, toB, toS, callC, arVs, noDup, arD, arB, arAll, okR, R.of, R.bind, R.s, slcD, hz, cut_top hi]
    rw [seq_nx (show exS (C6 n) _ v1 = .nx v2 from set_is (i := 2) (num v1 _ _ (hw.sub _ _) e2) p2)]
    let v3 : PI.Env := [some (.str w), some (.int i), some (oD (NW (topW w i))), some (oD (NW (botW w i))), none]
    have e3 : evE (C6 n) (.slc (.var 0) (.some (.bin .Add (.var 1) (.int 1))) .none) v2 = .ok (.str (botW w i)) v2 := by
      simp [v2, evE, evT, evC, evA, evO, evI, exS, exSs, getV, rdV, ixV, PI.D.freeze, biCalm, biF, binD_addI, binD_subI, cmpD, scalD, truthD, isNon, toI, toB, toS, callC, arVs, noDup, arD, arB, arAll, okR, R.of, R.bind, R.s, slcD, hz, cut_bot hi]
    rw [seq_nx (show exS (C6 n) _ v2 = .nx v3 from set_is (i := 3) (num v2 _ _ (hw.sub _ _) e3) p3)]
    cases hN : NW (topW w i) with
    | none =>
      have t2 : evT (C6 n) (.cmpT .Is (.var 2) .non) v3 = .ok true v3 := by simp [v3, hN, oD, evE, evT, evC, evA, evO, evI, exS, exSs, getV, rdV, ixV, PI.D.freeze, biCalm, biF, binD_addI, binD_subI, cmpD, scalD, truthD, isNon, toI, toB, toS, callC, arVs, noDup, arD, arB, arAll, okR, R.of, R.bind, R.s]
      rw [seq_ret ((if_t (ev_or_t t2)).trans (noneRet _))]
      rfl
    | some a =>
      have t2 : evT (C6 n) (.cmpT .Is (.var 2) .non) v3 = .ok false v3 := by simp [v3, hN, oD, evE, evT, evC, evA, evO, evI, exS, exSs, getV, rdV, ixV, PI.D.freeze, biCalm, biF, binD_addI, binD_subI, cmpD, scalD, truthD, isNon, toI, toB, toS, callC, arVs, noDup, arD, arB, arAll, okR, R.of, R.bind, R.s]
      cases hM : NW (botW w i) with
      | none =>
        have t3 : evT (C6 n) (.cmpT .Is (.var 3) .non) v3 = .ok true v3 := by simp [v3, hM, oD, evE, evT, evC, evA, evO, evI, exS, exSs, getV, rdV, ixV, PI.D.freeze, biCalm, biF, binD_addI, binD_subI, cmpD, scalD, truthD, isNon, toI, toB, toS, callC, arVs, noDup, arD, arB, arAll, okR, R.of, R.bind, R.s]
        rw [seq_ret ((if_t ((ev_or_f t2).trans (ev_or_t t3))).trans (noneRet _))]
        rfl
      | some b =>
        have t3 : evT (C6 n) (.cmpT .Is (.var 3) .non) v3 = .ok false v3 := by simp [v3, hM, oD, evE, evT, evC, evA, evO, evI, exS, exSs, getV, rdV, ixV, PI.D.freeze, biCalm, biF, binD_addI, binD_subI, cmpD, scalD, truthD, isNon, toI, toB, toS, callC, arVs, noDup, arD, arB, arAll, okR, R.of, R.bind, R.s]
        have g2 : evE (C6 n) (.var 2) v3 = .ok (.int a) v3 := ev_var (by simp [v3, getV, hN, oD]) rfl (by simp [v3, hN, oD])
        have g3 : evE (C6 n) (.var 3) v3 = .ok (.int b) v3 := ev_var (by simp [v3, getV, hM, oD]) rfl (by simp [v3, hM, oD])
        have t4 : evT (C6 n) (.cmpT .Lt (.var 3) (.int 2)) v3 = .ok (decide (b < 2)) v3 := ev_cmpT (y := .int 2) g3 (by simp only [evE]) rfl
        have fin : (if b < 2 ∨ Nat.gcd a.natAbs b.natAbs ≠ 1 then (none : Option (Int × Int)) else some (a, b)) = if b < 2 then none else if Nat.gcd a.natAbs b.natAbs = 1 then some (a, b) else none := by
          by_cases h1 : b < 2
          · simp [h1]
          · by_cases h2 : Nat.gcd a.natAbs b.natAbs = 1 <;> simp [h1, h2]
        show endC 1 _ = .ret (oR (if b < 2 ∨ Nat.gcd a.natAbs b.natAbs ≠ 1 then none else some (a, b))) _
        rw [fin]
        by_cases hb : b < 2
        · rw [decide_eq_true hb] at t4
          rw [seq_ret ((if_t ((ev_or_f t2).trans ((ev_or_f t3).trans (ev_or_t t4)))).trans (noneRet _)), if_pos hb]
          rfl
        · rw [decide_eq_false hb] at t4
          obtain ⟨o1, hg⟩ := call_gcd (a := a) (b := b) (NW_big hM) (n + 1)
          have g4 : evE (C6 n) (.call 8 (.cons (.var 2) (.cons (.var 3) .nil))) v3 = .ok (.int (Nat.gcd a.natAbs b.natAbs : Nat)) v3 := call_vals (l := [.int a, .int b]) (evA_cons g2 (evA_cons g3 evA_nil)) hg
          have hsmall : ((Nat.gcd a.natAbs b.natAbs : Nat) : Int).natAbs < digLim := by
            have h5 : 0 < b.natAbs := by omega
            have h1 := Nat.gcd_le_right a.natAbs h5
            have h2 := pow_dig
            have h3 := NW_big hM
            rw [Int.natAbs_natCast]
            exact Nat.lt_of_le_of_lt h1 (Nat.lt_trans h3 h2)
          have hone : (1 : Int).natAbs < digLim := by
            have h2 := pow_dig
            have h3 : 1 < 2 ^ 9000 := Nat.one_lt_two_pow (by decide)
            exact Nat.lt_trans h3 h2
          have g5 : evE (C6 n) (.call 4 (.cons (.call 8 (.cons (.var 2) (.cons (.var 3) .nil))) (.cons (.int 1) .nil))) v3 = .ok (.bl (decide (((Nat.gcd a.natAbs b.natAbs : Nat) : Int) = 1))) v3 :=
            call_vals (l := [.int (Nat.gcd a.natAbs b.natAbs : Nat), .int 1]) (evA_cons g4 (evA_cons ev_int evA_nil)) (is_int hsmall hone)
          have t5 : evT (C6 n) (.oneT (.notT (.ev (.call 4 (.cons (.call 8 (.cons (.var 2) (.cons (.var 3) .nil))) (.cons (.int 1) .nil)))))) v3 = .ok (!decide (((Nat.gcd a.natAbs b.natAbs : Nat) : Int) = 1)) v3 := ev_one.trans (ev_not (ev_ev g5 rfl))
          rw [if_neg hb]
          by_cases hq : Nat.gcd a.natAbs b.natAbs = 1
          · rw [decide_eq_true (show ((Nat.gcd a.natAbs b.natAbs : Nat) : Int) = 1 by rw [hq]; rfl)] at t5
            rw [if_pos hq]
            rw [seq_nx ((if_f ((ev_or_f t2).trans ((ev_or_f t3).trans ((ev_or_f t4).trans t5)))).trans seq_nil)]
            rw [seq_ret (d := .tup [.int a, .int b]) (v1 := v3) (ret_is (ev_tup (l := [.int a, .int b]) (evA_cons g2 (evA_cons g3 evA_nil)) (by rw [sizeLine_eq]; show (2 : Nat) ≤ _; decide)))]
            rfl
          · rw [decide_eq_false (show ¬ ((Nat.gcd a.natAbs b.natAbs : Nat) : Int) = 1 by omega)] at t5
            rw [if_neg hq]
            rw [seq_ret ((if_t ((ev_or_f t2).trans ((ev_or_f t3).trans ((ev_or_f t4).trans t5)))).trans (noneRet _))]
            rfl
end PI.KK
namespace PI.KK
open PySem K84
theorem call_whole {i : Int} {calm : Bool} (n : Nat) : pg.call (n + 1) calm 5 [.int i] = .ret (.bl true) [some (.int i)] := by
  rw [call_eq (d := d__law_whole) rfl rfl]
  simp [d__law_whole, b__law_whole, env0, evE, evT, evC, evA, evO, evI, exS, exSs, getV, rdV, ixV, PI.D.freeze, biCalm, biF, binD_addI, binD_subI, cmpD, scalD, truthD, isNon, toI, toB, toS, callC, arVs, noDup, arD, arB, arAll, okR, R.of, R.bind, R.s, isiD, endC]
abbrev C7 (n : Nat) : PI.Ctx := pg.ctx (pg.call (n + 1)) true d__law_is_ratio
theorem call_isr {a b : Int} (hb : 1 ≤ b) (hs : b.natAbs < 2 ^ 9000) (hg : Nat.gcd a.natAbs b.natAbs = 1) (n : Nat) : ∃ o, pg.call (n + 2) true 10 [.tup [.int a, .int b]] = .ret (.bl true) o := by
  rw [call_eq (n := n + 1) (d := d__law_is_ratio) rfl rfl]
  let v : PI.Env := [some (.tup [.int a, .int b])]
  refine ⟨v, ?_⟩
  show endC 1 (exSs (C7 n) b__law_is_ratio v) = _
  have t1 : evT (C7 n) (.ev (.isi 0 .tuple)) v = .ok true v := ev_ev (x := .bl true) (by simp [v, evE, getV, isiD]) rfl
  have t2 : evT (C7 n) (.cmpT .NotEq (.biv .len 0) (.int 2)) v = .ok false v := ev_cmpT (x := .int 2) (y := .int 2) (ev_biv rfl rfl rfl) ev_int rfl
  have g0 : evE (C7 n) (.ixv 0 (.int 0)) v = .ok (.int a) v := by simp [v, evE, getV, ixV, PI.ixD, L2.atI, L2.ixN, PI.D.frozen]
  have g1 : evE (C7 n) (.ixv 0 (.int 1)) v = .ok (.int b) v := by simp [v, evE, getV, ixV, PI.ixD, L2.atI, L2.ixN, PI.D.frozen]
  have w0 : evT (C7 n) (.ev (.call 5 (.cons (.ixv 0 (.int 0)) .nil))) v = .ok true v := ev_ev (call_vals (l := [.int a]) (evA_cons g0 evA_nil) (call_whole (calm := true) n)) rfl
  have w1 : evT (C7 n) (.ev (.call 5 (.cons (.ixv 0 (.int 1)) .nil))) v = .ok true v := ev_ev (call_vals (l := [.int b]) (evA_cons g1 evA_nil) (call_whole (calm := true) n)) rfl
  have t3 : evT (C7 n) (.oneT (.cmpT .Lt (.ixv 0 (.int 1)) (.int 1))) v = .ok false v := ev_one.trans (ev_cmpT (y := .int 1) g1 ev_int (by simp only [cmpD]; rw [decide_eq_false (by omega)]))
  obtain ⟨o, hc⟩ := call_gcd (a := a) (b := b) hs n
  rw [hg] at hc
  have g2 : evE (C7 n) (.call 8 (.cons (.ixv 0 (.int 0)) (.cons (.ixv 0 (.int 1)) .nil))) v = .ok (.int ((1 : Nat) : Int)) v := call_vals (l := [.int a, .int b]) (evA_cons g0 (evA_cons g1 evA_nil)) hc
  unfold b__law_is_ratio
  rw [seq_nx ((if_f ((ev_or_f (ev_not t1)).trans (ev_one.trans t2))).trans seq_nil)]
  rw [seq_nx ((if_f ((ev_or_f (ev_not w0)).trans ((ev_or_f (ev_not w1)).trans t3))).trans seq_nil)]
  rw [seq_ret (ret_is (d := .bl true) (v1 := v) (ev_cmp g2 ev_int rfl))]
  rfl
end PI.KK
namespace PI.KK
open PySem K84
theorem int_text_len {i : Int} (h : i.natAbs < 10 ^ 800) : (PyData.int i).shown.length ≤ 801 := by
  have e := int_text_length_le10 (k := 800) (by decide) h
  show (Str.ofString (toString i)).length ≤ 801
  rw [ofString_length]
  exact e
theorem pair_len {a b : Int} (ha : a.natAbs < 10 ^ 800) (hb : b.natAbs < 10 ^ 800) : (PyData.tuple [.int a, .int b]).shown.length ≤ sizeLine := by
  have h1 := int_text_len ha
  have h2 := int_text_len hb
  have e : (PyData.tuple [.int a, .int b]).shown = tupleText [(PyData.int a).shown, (PyData.int b).shown] := by simp only [PyData.shown, PyData.shownAll]
  rw [e]
  generalize (PyData.int a).shown = x at h1
  generalize (PyData.int b).shown = y at h2
  have hj := join_length_add [x, y] (by simp)
  simp only [piled] at hj
  unfold tupleText
  rw [Str.length_append, Str.length_append]
  have e1 : (("(" : String) : Str).length = 1 := rfl
  have e2 : ((if ([x, y] : List Str).length == 1 then ",)" else ")" : String) : Str).length = 1 := rfl
  rw [e1, e2, sizeLine_eq]
  simp at hj
  omega
theorem FW_top {w : Str} {a b : Int} (h : FW w = some (a, b)) : 1 ≤ b ∧ a.natAbs < 10 ^ 800 ∧ b.natAbs < 10 ^ 800 ∧ Nat.gcd a.natAbs b.natAbs = 1 := by
  have h1 : (1 : Nat) < 10 ^ 800 := Nat.one_lt_pow (by decide) (by decide)
  unfold FW at h
  split at h
  · rw [Option.map_eq_some_iff] at h
    obtain ⟨a', e, h⟩ := h
    cases h
    exact ⟨by decide, NW_bound e, h1, by simp⟩
  · split at h
    · rename_i ea eb
      split at h
      · cases h
      · rename_i g
        cases h
        have g' := not_or.mp g
        exact ⟨by omega, NW_bound ea, NW_bound eb, Decidable.not_not.mp g'.2⟩
    · cases h
end PI.KK
namespace PI.KK
open PySem K84
abbrev C8 (n : Nat) : PI.Ctx := pg.ctx (pg.call (n + 3)) true d__law_agrees
theorem frz_pair {a b : Int} : (PI.D.tup [.int a, .int b]).freeze = .tup [.int a, .int b] := by simp [PI.D.freeze, PI.D.freezeL]
theorem is_pair {n : Nat} {calm : Bool} {a b : Int} (ha : a.natAbs < 10 ^ 800) (hb : b.natAbs < 10 ^ 800) : pg.call (n + 1) calm 4 [.tup [.int a, .int b], .tup [.int a, .int b]] = .ret (.bl true) [some (.tup [.int a, .int b]), some (.tup [.int a, .int b])] := by
  have hs : shW (.tuple [.int a, .int b]) = true := by
    have h1 := Nat.lt_trans (Nat.lt_trans ha pow800) pow_dig
    have h2 := Nat.lt_trans (Nat.lt_trans hb pow800) pow_dig
    simp [shW, shWL, h1, h2]
  have hl := pair_len ha hb
  rw [call_is (p := .tuple [.int a, .int b]) (q := .tuple [.int a, .int b]) (by simp [D.py, D.pyL]) (by simp [D.py, D.pyL]) hs hs (by simp [PyData.depth, PyData.depthAll]) (by simp [PyData.depth, PyData.depthAll]) hl hl]
  simp
theorem call_agrees {w : Str} (hw : Ok w) (n : Nat) : ∃ o, pg.call (n + 4) true 19 [.str w] = .ret (.bl true) o := by
  rw [call_eq (n := n + 3) (d := d__law_agrees) rfl rfl]
  have p1 : (C8 n).pr 1 = false := rfl
  have p3 : (C8 n).pr 3 = false := rfl
  have p2 : (C8 n).pr 2 = false := rfl
  refine ⟨[some (.str w)], ?_⟩
  show endC 1 (exSs (C8 n) b__law_agrees [some (.str w), none, none, none]) = _
  obtain ⟨o1, h1⟩ := call_fword hw n
  obtain ⟨o2, h2⟩ := call_parse hw n
  let v0 : PI.Env := [some (.str w), none, none, none]
  let v1 : PI.Env := [some (.str w), some (oR (FW w)), none, none]
  have a0 : ∀ v : PI.Env, getV v 0 = some (.str w) → v.set 0 (some (.str w)) = v → evA (C8 n) (.cons (.var 0) .nil) v = .ok ([PI.D.str w].map Ar.d) v := fun v g1 g2 => evA_cons (ev_var g1 rfl g2) evA_nil
  have c1 : evE (C8 n) (.call 15 (.cons (.var 0) .nil)) v0 = .ok (oR (FW w)) v0 := call_vals (l := [.str w]) (a0 v0 rfl rfl) h1
  have s1 : exS (C8 n) (.set 1 (.call 15 (.cons (.var 0) .nil))) v0 = .nx v1 := set_is (i := 1) c1 p1
  unfold b__law_agrees
  rw [seq_nx s1]
  have hg : ((C8 n).calm && !(C8 n).pr 2 && (C8 n).cur.isNone) = true := rfl
  cases hF : FW w with
  | some ab =>
    obtain ⟨a, b⟩ := ab
    obtain ⟨f1, f2, f3, f4⟩ := FW_top hF
    rw [hF] at h2
    let v2 : PI.Env := [some (.str w), some (.tup [.int a, .int b]), none, some (.tup [.int a, .int b])]
    have hv1 : v1 = [some (.str w), some (.tup [.int a, .int b]), none, none] := by show [some (.str w), some (oR (FW w)), none, none] = _; rw [hF]; rfl
    have s2 : exSs (C8 n) (.cons (.set 3 (.call 2 (.cons (.var 0) .nil))) .nil) v1 = .nx v2 := by
      rw [hv1]
      have c2 : evE (C8 n) (.call 2 (.cons (.var 0) .nil)) [some (.str w), some (.tup [.int a, .int b]), none, none] = .ok (.tup [.int a, .int b]) [some (.str w), some (.tup [.int a, .int b]), none, none] := call_vals (l := [.str w]) (a0 _ rfl rfl) h2
      rw [seq_nx (show exS (C8 n) _ [some (.str w), some (.tup [.int a, .int b]), none, none] = .nx v2 from set_is (i := 3) c2 p3), seq_nil]
    rw [seq_nx (try_nx hg s2)]
    have g1 : evE (C8 n) (.var 1) v2 = .ok (.tup [.int a, .int b]) v2 := ev_var rfl frz_pair rfl
    have g3 : evE (C8 n) (.var 3) v2 = .ok (.tup [.int a, .int b]) v2 := ev_var rfl frz_pair rfl
    obtain ⟨o3, h3⟩ := call_isr (a := a) (b := b) f1 (Nat.lt_trans f3 pow800) f4 (n + 1)
    have e1 : evE (C8 n) (.cmp .IsNot (.var 1) .non) v2 = .ok (.bl true) v2 := ev_cmp g1 ev_non rfl
    have e2 : evE (C8 n) (.call 10 (.cons (.var 3) .nil)) v2 = .ok (.bl true) v2 := call_vals (l := [.tup [.int a, .int b]]) (evA_cons g3 evA_nil) h3
    have e3 : evE (C8 n) (.call 4 (.cons (.var 3) (.cons (.var 1) .nil))) v2 = .ok (.bl true) v2 := call_vals (l := [.tup [.int a, .int b], .tup [.int a, .int b]]) (evA_cons g3 (evA_cons g1 evA_nil)) (is_pair f2 f3)
    rw [seq_ret (ret_is ((ev_andE_t e1).trans ((ev_andE_t e2).trans (ev_oneE.trans e3))))]
    rfl
  | none =>
    rw [hF] at h2
    have hv1 : v1 = [some (.str w), some .non, none, none] := by show [some (.str w), some (oR (FW w)), none, none] = _; rw [hF]; rfl
    have s2 : exSs (C8 n) (.cons (.set 3 (.call 2 (.cons (.var 0) .nil))) .nil) v1 = .exc 16 [("word", .str w)] v1 := by
      rw [hv1]
      refine seq_exc ?_
      have := call_exc (C := C8 n) (f := 2) (l := [.str w]) (v := [some (.str w), some .non, none, none]) (es := .cons (.var 0) .nil) (a0 _ rfl rfl) h2
      simp only [exS, this, R.s_exc]
    let C' : PI.Ctx := { C8 n with cur := some (2, 16, [("word", .str w)]), calm := false }
    have t1 : evT C' (.ev (.isx 2 [6, 11, 7, 2, 17, 15, 10, 3, 13, 12])) v1 = .ok false v1 := ev_ev (x := .bl false) (by simp only [evE]; rfl) rfl
    have t2 : evT C' (.ev (.isx 2 [5, 4, 14, 8, 20, 18, 21, 19, 9, 1])) v1 = .ok false v1 := ev_ev (x := .bl false) (by simp only [evE]; rfl) rfl
    have t3 : evT C' (.ev (.isx 2 [0])) v1 = .ok true v1 := ev_ev (x := .bl true) (by simp only [evE]; rfl) rfl
    have t4 : evT C' (.ev (.isv 2)) v1 = .ok true v1 := ev_ev (x := .bl true) (by simp only [evE]; rfl) rfl
    have fw : evE C' (.xfld 2 "word") v1 = .ok (.str w) v1 := by simp only [evE]; rfl
    have t5 : evT C' (.ev (.isg (.xfld 2 "word") .str)) v1 = .ok true v1 := ev_ev (x := .bl true) (by simp only [evE] at fw ⊢; simp only [fw, R.bind_ok]; rfl) rfl
    have e1 : evE C' (.cmp .Is (.var 1) .non) v1 = .ok (.bl true) v1 := by
      rw [hv1]
      exact ev_cmp (ev_var (d := .non) rfl rfl rfl) ev_non rfl
    have e2 : evE C' (.call 4 (.cons (.xfld 2 "word") (.cons (.var 0) .nil))) v1 = .ok (.bl true) v1 := call_vals (l := [.str w, .str w]) (evA_cons fw (evA_cons (ev_var (by rw [hv1]; rfl) rfl (by rw [hv1]; rfl)) evA_nil)) (is_same (n := n + 2) (calm := false) hw)
    rw [seq_ret (try_ret (d := .bl true) (v2 := v1) hg s2 (by rw [hv1]; rfl) rfl ?_)]
    · rw [hv1]
      rfl
    · show exSs C' _ (v1.set 2 none) = _
      have hset : v1.set 2 none = v1 := by rw [hv1]; rfl
      rw [hset]
      rw [seq_nx ((if_f t1).trans seq_nil), seq_nx ((if_f t2).trans seq_nil)]
      rw [seq_nx ((if_f ((ev_or_f (ev_not t3)).trans ((ev_or_f (ev_not t4)).trans (ev_one.trans (ev_not t5))))).trans seq_nil)]
      exact seq_ret (ret_is ((ev_andE_t e1).trans (ev_oneE.trans e2)))
end PI.KK
namespace PI.KK
open PySem K84
abbrev SC (ns : List Int) : PI.D := .lst .wr (ns.map PI.D.int)
theorem frz_ints : ∀ ns : List Int, PI.D.freezeL (ns.map PI.D.int) = ns.map PI.D.int
  | [] => rfl
  | i :: ns => by simp [PI.D.freezeL, PI.D.freeze, frz_ints ns]
theorem frzn_ints : ∀ ns : List Int, PI.D.frozenL (ns.map PI.D.int) = true
  | [] => rfl
  | i :: ns => by simp [PI.D.frozenL, PI.D.frozen, frzn_ints ns]
theorem frz_sc (ns : List Int) : (SC ns).freeze = SC ns := by simp [PI.D.freeze, frz_ints, PI.D.fz]
abbrev C9 (n : Nat) : PI.Ctx := pg.ctx (pg.call n) true d__law_cell
abbrev B9 : Ss := .cons (.set 2 (.bin .Mod (.bi .int (.cons (.bin .Add (.bin .Mult (.var 2) (.int 31)) (.bin .Mod (.biv .int 3) (.int 1000003))) .nil)) (.int 1000003))) .nil
abbrev P9 (n : Nat) : PI.D → PI.Env → RS := fun d v2 => asR (C9 n) (.nm 3) d v2 fun v3 => exSs (C9 n) B9 v3
theorem P9_is (n : Nat) (a b : PI.D) (c s : Int) (x : Option PI.D) : ∃ s' : Int, P9 n (.int c) [some a, some b, some (.int s), x] = .nx [some a, some b, some (.int s'), some (.int c)] := by
  refine ⟨((s * 31 + c.fmod 1000003).fmod 1000003), ?_⟩
  let v : PI.Env := [some a, some b, some (.int s), some (.int c)]
  have h0 : asT (C9 n) (.nm 3) (.int c) [some a, some b, some (.int s), x] = some v := rfl
  simp only [P9, asR, h0, B9]
  have e1 : evE (C9 n) (.bin .Add (.bin .Mult (.var 2) (.int 31)) (.bin .Mod (.biv .int 3) (.int 1000003))) v = .ok (.int (s * 31 + c.fmod 1000003)) v :=
    ev_bin (ev_bin (ev_var (d := .int s) rfl rfl rfl) ev_int (binD_mulR ⟨by omega, by omega⟩)) (ev_bin (ev_biv (d := .int c) rfl rfl rfl) ev_int (binD_mod (by decide))) (binD_addI _ _)
  have e2 : evE (C9 n) (.bin .Mod (.bi .int (.cons (.bin .Add (.bin .Mult (.var 2) (.int 31)) (.bin .Mod (.biv .int 3) (.int 1000003))) .nil)) (.int 1000003)) v = .ok (.int ((s * 31 + c.fmod 1000003).fmod 1000003)) v :=
    ev_bin (ev_bi (d := .int (s * 31 + c.fmod 1000003)) (l := [.int (s * 31 + c.fmod 1000003)]) rfl (evA_cons e1 evA_nil) rfl rfl) ev_int (binD_mod (by decide))
  rw [seq_nx (set_is (i := 2) e2 rfl), seq_nil]
  rfl
theorem loop9 (n : Nat) (a b : PI.D) : ∀ (ns : List Int) (s : Int) (x : Option PI.D), ∃ (s' : Int) (x' : Option PI.D), forL (P9 n) (ns.map PI.D.int) [some a, some b, some (.int s), x] = .nx [some a, some b, some (.int s'), x']
  | [], s, x => ⟨s, x, rfl⟩
  | c :: ns, s, x => by
    obtain ⟨s1, e⟩ := P9_is n a b c s x
    rw [List.map_cons, forL_nx e]
    exact loop9 n a b ns s1 _
theorem call_cell (ns : List Int) (k : Nat) (hk : k < 1000) (n : Nat) : ∃ (i : Int) (o : PI.Env), pg.call (n + 1) true 6 [SC ns, .int k] = .ret (.int i) o := by
  rw [call_eq (d := d__law_cell) rfl rfl]
  let v : PI.Env := [some (SC ns), some (.int k), none, none]
  show ∃ i o, endC 2 (exSs (C9 n) b__law_cell v) = _
  have t : evT (C9 n) (.cmpT .Lt (.var 1) (.biv .len 0)) v = .ok (decide ((k : Int) < (ns.map PI.D.int).length)) v := ev_cmpT (ev_var (d := .int k) rfl rfl rfl) (ev_biv (d := .int ((ns.map PI.D.int).length : Nat)) rfl rfl rfl) rfl
  unfold b__law_cell
  by_cases h : (k : Int) < ((ns.map PI.D.int).length : Nat)
  · rw [decide_eq_true h] at t
    have hk' : k < ns.length := by simpa using h
    refine ⟨ns[k], [some (SC ns), some (.int k)], ?_⟩
    have hat : L2.atI (ns.map PI.D.int) (k : Int) = some (.int ns[k]) := L2.atI_nat (by simp [hk'])
    have e : evE (C9 n) (.ixv 0 (.var 1)) v = .ok (.int ns[k]) v := by
      have g : evE (C9 n) (.var 1) v = .ok (.int k) v := ev_var rfl rfl rfl
      have g0 : getV v 0 = some (SC ns) := rfl
      simp only [evE] at g ⊢
      simp only [g0, g, R.bind_ok, ixV, PI.ixD, hat, PI.D.frozen, if_true]
    rw [seq_ret ((if_t t).trans (seq_ret (ret_is e)))]
    rfl
  · rw [decide_eq_false h] at t
    rw [seq_nx ((if_f t).trans seq_nil)]
    let v2 : PI.Env := [some (SC ns), some (.int k), some (.int 17), none]
    rw [seq_nx (show exS (C9 n) _ v = .nx v2 from set_is (i := 2) ev_int rfl)]
    obtain ⟨s', x', hl⟩ := loop9 n (SC ns) (.int k) ns 17 none
    have hsrc : evI (C9 n) (.ov (.var 0)) v2 = .ok (ns.map PI.D.int) v2 := by
      have g : evE (C9 n) (.var 0) v2 = .ok (SC ns) v2 := ev_var rfl (frz_sc ns) rfl
      simp only [evI, g, R.bind_ok, itemsD, frzn_ints, if_true, R.of_some]
    rw [seq_nx (for_is rfl hsrc hl)]
    let v3 : PI.Env := [some (SC ns), some (.int k), some (.int s'), x']
    refine ⟨((s' + 7) * ((k : Int) + 3) * 69621).fmod 2147483647, [some (SC ns), some (.int k)], ?_⟩
    have m1 : evE (C9 n) (.bin .Mult (.bin .Mult (.bin .Add (.var 2) (.int 7)) (.bin .Add (.var 1) (.int 3))) (.int 69621)) v3 = .ok (.int ((s' + 7) * ((k : Int) + 3) * 69621)) v3 :=
      ev_bin (ev_bin (ev_bin (ev_var (d := .int s') rfl rfl rfl) ev_int (binD_addI _ _)) (ev_bin (ev_var (d := .int k) rfl rfl rfl) ev_int (binD_addI _ _)) (binD_mulR ⟨by omega, by omega⟩)) ev_int (binD_mulR ⟨by omega, by omega⟩)
    have m2 := ev_bin (C := C9 n) (op := .Mod) (b := .int 2147483647) (ev_bi (bi := .int) (d := .int ((s' + 7) * ((k : Int) + 3) * 69621)) (l := [.int ((s' + 7) * ((k : Int) + 3) * 69621)]) rfl (evA_cons m1 evA_nil) rfl rfl) ev_int (binD_mod (j := 2147483647) (by decide))
    rw [seq_ret (ret_is m2)]
    rfl
end PI.KK
namespace PI.KK
open PySem K84
/-- whole numbers from nought on -/
abbrev nats (l : List Nat) : List PI.D := l.map fun (k : Nat) => PI.D.int (k : Int)
theorem frz_nats : ∀ l : List Nat, PI.D.freezeL (nats l) = nats l
  | [] => rfl
  | i :: ns => by simp [PI.D.freezeL, PI.D.freeze, frz_nats ns]
theorem frzn_nats : ∀ l : List Nat, PI.D.frozenL (nats l) = true
  | [] => rfl
  | i :: ns => by simp [PI.D.frozenL, PI.D.frozen, frzn_nats ns]
abbrev C10 (n : Nat) : PI.Ctx := pg.ctx (pg.call n) true d__law_joined
abbrev B10 : Ss := .cons (.set 1 (.bin .Add (.bin .Mult (.var 1) (.int 10)) (.var 2))) .nil
abbrev P10 (n : Nat) : PI.D → PI.Env → RS := fun d v2 => asR (C10 n) (.nm 2) d v2 fun v3 => exSs (C10 n) B10 v3
theorem P10_is (n : Nat) (a : PI.D) (c s : Int) (x : Option PI.D) : P10 n (.int c) [some a, some (.int s), x] = .nx [some a, some (.int (s * 10 + c)), some (.int c)] := by
  let v : PI.Env := [some a, some (.int s), some (.int c)]
  have h0 : asT (C10 n) (.nm 2) (.int c) [some a, some (.int s), x] = some v := rfl
  simp only [P10, asR, h0, B10]
  have e1 : evE (C10 n) (.bin .Add (.bin .Mult (.var 1) (.int 10)) (.var 2)) v = .ok (.int (s * 10 + c)) v :=
    ev_bin (ev_bin (ev_var (d := .int s) rfl rfl rfl) ev_int (binD_mulR ⟨by omega, by omega⟩)) (ev_var (d := .int c) rfl rfl rfl) (binD_addI _ _)
  rw [seq_nx (set_is (i := 1) e1 rfl), seq_nil]
  rfl
theorem loop10 (n : Nat) (a : PI.D) : ∀ (l : List Nat) (s : Nat) (x : Option PI.D), ∃ x', forL (P10 n) (nats l) [some a, some (.int s), x] = .nx [some a, some (.int ((l.foldl (fun acc c => acc * 10 + c) s : Nat) : Int)), x']
  | [], s, x => ⟨x, rfl⟩
  | c :: l, s, x => by
    have e := P10_is n a c s x
    have e2 : (s : Int) * 10 + c = ((s * 10 + c : Nat) : Int) := by omega
    rw [e2] at e
    rw [nats, List.map_cons, forL_nx e, List.foldl_cons]
    exact loop10 n a l _ _
theorem call_joined (l : List Nat) (o : Ow) (n : Nat) : ∃ o', pg.call (n + 1) true 11 [.lst o (nats l)] = .ret (.int ((l.foldl (fun acc c => acc * 10 + c) 0 : Nat) : Int)) o' := by
  rw [call_eq (d := d__law_joined) rfl rfl]
  let f : PI.D := .lst (PI.D.fz o) (nats l)
  have hf : (PI.D.lst o (nats l)).freeze = f := by simp [PI.D.freeze, f, frz_nats]
  let v1 : PI.Env := [some (.lst o (nats l)), some (.int 0), none]
  let v2 : PI.Env := [some f, some (.int 0), none]
  obtain ⟨x', hl⟩ := loop10 n f l 0 none
  refine ⟨[some f], ?_⟩
  show endC 1 (exSs (C10 n) b__law_joined [some (.lst o (nats l)), none, none]) = _
  unfold b__law_joined
  rw [seq_nx (show exS (C10 n) _ [some (.lst o (nats l)), none, none] = .nx v1 from set_is (i := 1) ev_int rfl)]
  have hsrc : evI (C10 n) (.ov (.var 0)) v1 = .ok (nats l) v2 := by
    have g : evE (C10 n) (.var 0) v1 = .ok f v2 := by
      have h0 : getV v1 0 = some (.lst o (nats l)) := rfl
      simp only [evE, rdV, h0, hf]
      rfl
    simp only [evI, g, R.bind_ok, f, itemsD, frzn_nats, if_true, R.of_some]
  rw [seq_nx (for_is rfl hsrc hl), seq_ret (ret_is (ev_var (i := 1) (d := .int _) rfl rfl rfl))]
  rfl
theorem joined_lt : ∀ (l : List Nat) (m : Nat), (∀ c ∈ l, c < 10) → l.foldl (fun acc c => acc * 10 + c) m < (m + 1) * 10 ^ l.length
  | [], m, _ => by simp
  | c :: l, m, h => by
    rw [List.foldl_cons]
    have h1 := joined_lt l (m * 10 + c) fun d hd => h d (by simp [hd])
    have h2 := h c (by simp)
    have h3 : (m * 10 + c + 1) * 10 ^ l.length ≤ ((m + 1) * 10) * 10 ^ l.length := Nat.mul_le_mul_right _ (by omega)
    rw [List.length_cons, Nat.pow_succ, Nat.mul_comm (10 ^ l.length) 10, ← Nat.mul_assoc]
    omega
end PI.KK
namespace PI.KK
open PySem K84
abbrev C11 (n : Nat) : PI.Ctx := pg.ctx (pg.call n) true d__law_digits
abbrev B11 : Ss := (.cons (.set 4 (.bin .Mod (.bi .int (.cons (.bin .Add (.bin .Add (.bin .Mult (.var 4) (.int 48271)) (.bin .Mult (.int 974711) (.var 5))) (.int 12345)) .nil)) (.int 2147483647)))
 (.cons (.ife (.cmpT .Gt (.var 3) (.int 0)) (.cons (.app 2 (.bin .Mod (.biv .int 3) (.ixv 1 (.var 5))))
 (.cons (.set 3 (.bin .FloorDiv (.var 3) (.ixv 1 (.var 5))))
 .nil)) (.cons (.app 2 (.bin .Mod (.bin .FloorDiv (.bin .Mod (.bi .int (.cons (.bin .Mult (.var 4) (.bin .Add (.bin .FloorDiv (.var 4) (.int 65537)) (.int 3))) .nil)) (.int 2147483629)) (.int 19)) (.ixv 1 (.var 5))))
 .nil))
 .nil))
abbrev P11 (n : Nat) : PI.D → PI.Env → RS := fun d v2 => asR (C11 n) (.nm 5) d v2 fun v3 => exSs (C11 n) B11 v3
theorem app_is {C : PI.Ctx} {i : Nat} {e : E} {l : List PI.D} {d : PI.D} {v : PI.Env} (h0 : getV v i = some (.lst .own l)) (h : evE C e v = .ok d v) (hl : l.length < sizeLine) : exS C (.app i e) v = .nx (v.set i (some (.lst .own (l ++ [d])))) := by
  simp only [exS, h0, h, R.s_ok, appV, hl, if_true, okR_some]
theorem ixv_is {C : PI.Ctx} {i : Nat} {e : E} {d k x : PI.D} {v : PI.Env} (h0 : getV v i = some d) (h : evE C e v = .ok k v) (hx : PI.ixD d k = some x) (hf : x.frozen = true) : evE C (.ixv i e) v = .ok x v := by
  simp only [evE, h0, h, R.bind_ok, ixV, hx, hf, if_true]
theorem P11_is (n : Nat) (a : PI.D) (sz : List PI.D) (l : List PI.D) (rest seed k m : Int) (x : Option PI.D) (hl : l.length < sizeLine) (hm : 0 < m) (hm2 : m.natAbs.log2 < 9000) (hat : L2.atI sz k = some (.int m)) (s0 : 0 ≤ seed) (s1 : seed < 2147483647) :
    ∃ rest' seed' y : Int, 0 ≤ y ∧ y < m ∧ 0 ≤ seed' ∧ seed' < 2147483647 ∧ P11 n (.int k) [some a, some (.lst .own sz), some (.lst .own l), some (.int rest), some (.int seed), x] = .nx [some a, some (.lst .own sz), some (.lst .own (l ++ [.int y])), some (.int rest'), some (.int seed'), some (.int k)] := by
  let v : PI.Env := [some a, some (.lst .own sz), some (.lst .own l), some (.int rest), some (.int seed), some (.int k)]
  have h0 : asT (C11 n) (.nm 5) (.int k) [some a, some (.lst .own sz), some (.lst .own l), some (.int rest), some (.int seed), x] = some v := rfl
  let s' : Int := (seed * 48271 + 974711 * k + 12345).fmod 2147483647
  have g0 : 0 ≤ s' := Int.fmod_nonneg_of_pos _ (by decide)
  have g1 : s' < 2147483647 := Int.fmod_lt_of_pos _ (by decide)
  let v1 : PI.Env := [some a, some (.lst .own sz), some (.lst .own l), some (.int rest), some (.int s'), some (.int k)]
  have e1 : exS (C11 n) (.set 4 (.bin .Mod (.bi .int (.cons (.bin .Add (.bin .Add (.bin .Mult (.var 4) (.int 48271)) (.bin .Mult (.int 974711) (.var 5))) (.int 12345)) .nil)) (.int 2147483647))) v = .nx v1 :=
    set_is (i := 4) (ev_bin (ev_bi (d := .int (seed * 48271 + 974711 * k + 12345)) (l := [.int (seed * 48271 + 974711 * k + 12345)]) rfl (evA_cons (ev_bin (ev_bin (ev_bin (ev_var (d := .int seed) rfl rfl rfl) ev_int (binD_mulR ⟨by omega, by omega⟩)) (ev_bin ev_int (ev_var (d := .int k) rfl rfl rfl) (binD_mulL ⟨by omega, by omega⟩)) (binD_addI _ _)) ev_int (binD_addI _ _)) evA_nil) rfl rfl) ev_int (binD_mod (by decide))) rfl
  have sk : evE (C11 n) (.ixv 1 (.var 5)) v1 = .ok (.int m) v1 := ixv_is (d := .lst .own sz) (k := .int k) rfl (ev_var rfl rfl rfl) hat rfl
  simp only [P11, asR, h0, B11]
  rw [seq_nx e1]
  have m0 : m ≠ 0 := by omega
  have t : evT (C11 n) (.cmpT .Gt (.var 3) (.int 0)) v1 = .ok (decide (0 < rest)) v1 := ev_cmpT (ev_var (d := .int rest) rfl rfl rfl) ev_int rfl
  by_cases hr : 0 < rest
  · rw [decide_eq_true hr] at t
    let y := rest.fmod m
    let v2 : PI.Env := [some a, some (.lst .own sz), some (.lst .own (l ++ [.int y])), some (.int rest), some (.int s'), some (.int k)]
    let v3 : PI.Env := [some a, some (.lst .own sz), some (.lst .own (l ++ [.int y])), some (.int (rest.fdiv m)), some (.int s'), some (.int k)]
    have sk2 : evE (C11 n) (.ixv 1 (.var 5)) v2 = .ok (.int m) v2 := ixv_is (d := .lst .own sz) (k := .int k) rfl (ev_var rfl rfl rfl) hat rfl
    have e2 : exS (C11 n) (.app 2 (.bin .Mod (.biv .int 3) (.ixv 1 (.var 5)))) v1 = .nx v2 := app_is (l := l) rfl (ev_bin (ev_biv (d := .int rest) rfl rfl rfl) sk (binD_mod m0)) hl
    have e3 : exS (C11 n) (.set 3 (.bin .FloorDiv (.var 3) (.ixv 1 (.var 5)))) v2 = .nx v3 := set_is (i := 3) (ev_bin (ev_var (d := .int rest) rfl rfl rfl) sk2 (binD_div m0 hm2)) rfl
    refine ⟨rest.fdiv m, s', y, Int.fmod_nonneg_of_pos _ hm, Int.fmod_lt_of_pos _ hm, g0, g1, ?_⟩
    rw [seq_nx ((if_t t).trans ((seq_nx e2).trans ((seq_nx e3).trans seq_nil))), seq_nil]
  · rw [decide_eq_false hr] at t
    let q : Int := s'.fdiv 65537 + 3
    let y : Int := (((s' * q).fmod 2147483629).fdiv 19).fmod m
    let v2 : PI.Env := [some a, some (.lst .own sz), some (.lst .own (l ++ [.int y])), some (.int rest), some (.int s'), some (.int k)]
    have hq : -(2 ^ 64) < s' ∧ s' < 2 ^ 64 := ⟨by omega, by omega⟩
    have eq1 : evE (C11 n) (.bin .Add (.bin .FloorDiv (.var 4) (.int 65537)) (.int 3)) v1 = .ok (.int q) v1 := ev_bin (ev_bin (ev_var (d := .int s') rfl rfl rfl) ev_int (binD_div (by decide) (by decide))) ev_int (binD_addI _ _)
    have eq2 : evE (C11 n) (.bi .int (.cons (.bin .Mult (.var 4) (.bin .Add (.bin .FloorDiv (.var 4) (.int 65537)) (.int 3))) .nil)) v1 = .ok (.int (s' * q)) v1 := ev_bi (l := [.int (s' * q)]) rfl (evA_cons (ev_bin (ev_var (d := .int s') rfl rfl rfl) eq1 (binD_mulL hq)) evA_nil) rfl rfl
    have e2 : exS (C11 n) (.app 2 (.bin .Mod (.bin .FloorDiv (.bin .Mod (.bi .int (.cons (.bin .Mult (.var 4) (.bin .Add (.bin .FloorDiv (.var 4) (.int 65537)) (.int 3))) .nil)) (.int 2147483629)) (.int 19)) (.ixv 1 (.var 5)))) v1 = .nx v2 :=
      app_is (l := l) rfl (ev_bin (ev_bin (ev_bin eq2 ev_int (binD_mod (by decide))) ev_int (binD_div (by decide) (by decide))) sk (binD_mod m0)) hl
    refine ⟨rest, s', y, Int.fmod_nonneg_of_pos _ hm, Int.fmod_lt_of_pos _ hm, g0, g1, ?_⟩
    rw [seq_nx ((if_f t).trans ((seq_nx e2).trans seq_nil)), seq_nil]
end PI.KK
namespace PI.KK
open PySem K84
/-- the digits so far are below their sizes -/
def Below (sz ds : List Nat) : Prop := ∀ (i d : Nat), ds[i]? = some d → ∃ m : Nat, sz[i]? = some m ∧ d < m
theorem loop11 (n : Nat) (a : PI.D) (sz : List Nat) (hz : ∀ m ∈ sz, 0 < m ∧ m < 100000) (hlen : sz.length < 1000) : ∀ (j : Nat) (ds : List Nat) (rest seed : Int) (x : Option PI.D), ds.length + j = sz.length → Below sz ds → 0 ≤ seed → seed < 2147483647 →
    ∃ (es : List Nat) (r' s' : Int) (x' : Option PI.D), es.length = sz.length ∧ Below sz es ∧ forL (P11 n) ((List.range' ds.length j).map fun (k : Nat) => PI.D.int k) [some a, some (.lst .own (nats sz)), some (.lst .own (nats ds)), some (.int rest), some (.int seed), x] =
      .nx [some a, some (.lst .own (nats sz)), some (.lst .own (nats es)), some (.int r'), some (.int s'), x']
  | 0, ds, rest, seed, x, h, hb, _, _ => ⟨ds, rest, seed, x, by omega, hb, by simp [forL]⟩
  | j + 1, ds, rest, seed, x, h, hb, s0, s1 => by
    have hk : ds.length < sz.length := by omega
    obtain ⟨m, hm⟩ : ∃ m, sz[ds.length]? = some m := ⟨sz[ds.length], by simp [hk]⟩
    have hmz := hz m (List.mem_of_getElem? hm)
    have hat : L2.atI (nats sz) (ds.length : Int) = some (.int (m : Int)) := L2.atI_nat (by simp [nats, hm])
    have hl2 : (m : Int).natAbs.log2 < 9000 := by
      rw [Int.natAbs_natCast]
      exact (Nat.log2_lt (by omega)).mpr (Nat.lt_trans hmz.2 (Nat.lt_of_lt_of_le (by decide : 100000 < 2 ^ 17) (Nat.pow_le_pow_right (by decide) (by decide))))
    have hl : (nats ds).length < sizeLine := by
      rw [List.length_map, sizeLine_eq]
      omega
    obtain ⟨r', s', y, y0, y1, t0, t1, e⟩ := P11_is n a (nats sz) (nats ds) rest seed ds.length m x hl (by omega) hl2 hat s0 s1
    obtain ⟨d, rfl⟩ := Int.eq_ofNat_of_zero_le y0
    have hnew : nats ds ++ [PI.D.int (d : Int)] = nats (ds ++ [d]) := by simp [nats]
    rw [hnew] at e
    have hb2 : Below sz (ds ++ [d]) := by
      intro i d' h'
      by_cases hi : i < ds.length
      · rw [List.getElem?_append_left hi] at h'
        exact hb i d' h'
      · have : i = ds.length := by
          have := (List.getElem?_eq_some_iff.mp h').1
          simp at this
          omega
        subst this
        simp at h'
        subst h'
        exact ⟨m, hm, by omega⟩
    obtain ⟨es, r2, s2, x2, q1, q2, q3⟩ := loop11 n a sz hz hlen j (ds ++ [d]) r' s' _ (by simp; omega) hb2 t0 t1
    refine ⟨es, r2, s2, x2, q1, q2, ?_⟩
    rw [List.range'_succ, List.map_cons, forL_nx e]
    simpa using q3
end PI.KK
namespace PI.KK
open PySem K84
theorem rngD_one {j : Int} (h : -(2 ^ 62) ≤ j ∧ j < 2 ^ 62) : rngD [.int j] = some ((List.range j.toNat).map fun (k : Nat) => PI.D.int k) := by
  unfold rngD
  exact if_pos h
theorem rngD_nat {k : Nat} (h : k < 1000) : rngD [.int (k : Int)] = some ((List.range k).map fun (k : Nat) => PI.D.int k) := by
  rw [rngD_one ⟨by omega, by omega⟩, Int.toNat_natCast]
theorem evI_rng1 {C : PI.Ctx} {e : E} {v v1 : PI.Env} {j : Int} {l : List PI.D} (h : evE C e v = .ok (.int j) v1) (hr : rngD [.int j] = some l) : evI C (.rng (.cons e .nil)) v = .ok l v1 := by
  simp only [evI, evA, h, R.bind_ok, arAll, Option.map_some, R.of_some, hr]
theorem binD_pow {i j : Int} (h : 0 ≤ j ∧ j ≤ 1000000 ∧ i.natAbs < 2 ^ 64) : binD .Pow (.int i) (.int j) = some (.int (i ^ j.toNat)) := by simp only [binD, if_pos h]
theorem pow18 : ∃ T : Int, binD .Pow (.int 10) (.int 18) = some (.int T) := ⟨_, binD_pow ⟨by omega, by omega, by omega⟩⟩
theorem call_digits (c : Int) (sz : List Nat) (hz : ∀ m ∈ sz, 0 < m ∧ m < 100000) (hlen : sz.length < 1000) (n : Nat) : ∃ (ds : List Nat) (o : PI.Env), ds.length = sz.length ∧ Below sz ds ∧ pg.call (n + 1) true 7 [.int c, .lst .own (nats sz)] = .ret (.lst .frz (nats ds)) o := by
  rw [call_eq (d := d__law_digits) rfl rfl]
  obtain ⟨T, pw⟩ := pow18
  let v0 : PI.Env := [some (.int c), some (.lst .own (nats sz)), none, none, none, none]
  let v1 : PI.Env := [some (.int c), some (.lst .own (nats sz)), some (.lst .own []), none, none, none]
  let v2 : PI.Env := [some (.int c), some (.lst .own (nats sz)), some (.lst .own []), some (.int (c - T)), none, none]
  let v3 : PI.Env := [some (.int c), some (.lst .own (nats sz)), some (.lst .own []), some (.int (c - T)), some (.int (c.fmod 2147483629)), none]
  have a1 : exS (C11 n) (.set 2 (.lst .nil)) v0 = .nx v1 := set_is (i := 2) (ev_lst (l := []) evA_nil (Nat.zero_le _)) rfl
  have a2 : exS (C11 n) (.set 3 (.bin .Sub (.biv .int 0) (.bin .Pow (.int 10) (.int 18)))) v1 = .nx v2 := set_is (i := 3) (ev_bin (ev_biv (d := .int c) rfl rfl rfl) (ev_bin ev_int ev_int pw) (binD_subI _ _)) rfl
  have a3 : exS (C11 n) (.set 4 (.bin .Mod (.biv .int 0) (.int 2147483629))) v2 = .nx v3 := set_is (i := 4) (ev_bin (ev_biv (d := .int c) rfl rfl rfl) ev_int (binD_mod (by decide))) rfl
  have s0 : 0 ≤ c.fmod 2147483629 := Int.fmod_nonneg_of_pos _ (by decide)
  have s1 : c.fmod 2147483629 < 2147483629 := Int.fmod_lt_of_pos _ (by decide)
  obtain ⟨es, r', s', x', q1, q2, q3⟩ := loop11 n (.int c) sz hz hlen sz.length [] (c - T) (c.fmod 2147483629) none (by simp) (by intro i d h; simp at h) s0 (by omega)
  have hr := rngD_nat (k := sz.length) hlen
  rw [List.range_eq_range'] at hr
  have hl : (nats sz).length = sz.length := by simp [nats]
  have g : evE (C11 n) (.biv .len 1) v3 = .ok (.int (sz.length : Int)) v3 := ev_biv (x := .lst .own (nats sz)) rfl rfl (by rw [← hl]; rfl)
  have hsrc : evI (C11 n) (.rng (.cons (.biv .len 1) .nil)) v3 = .ok ((List.range' 0 sz.length).map fun (k : Nat) => PI.D.int k) v3 := evI_rng1 g hr
  have q3 : forL (P11 n) ((List.range' 0 sz.length).map fun (k : Nat) => PI.D.int k) v3 = _ := q3
  refine ⟨es, [some (.int c), some (.lst .own (nats sz))], q1, q2, ?_⟩
  show endC 2 (exSs (C11 n) b__law_digits v0) = _
  unfold b__law_digits
  rw [seq_nx a1, seq_nx a2, seq_nx a3, seq_nx (for_is rfl hsrc q3)]
  have hret : evE (C11 n) (.var 2) [some (.int c), some (.lst .own (nats sz)), some (.lst .own (nats es)), some (.int r'), some (.int s'), x'] = .ok (.lst .frz (nats es)) [some (.int c), some (.lst .own (nats sz)), some (.lst .frz (nats es)), some (.int r'), some (.int s'), x'] := by
    simp [evE, rdV, getV, PI.D.freeze, PI.D.fz, frz_nats]
  rw [seq_ret (ret_is hret)]
  rfl
end PI.KK
namespace PI.KK
open PySem K84
/-- a fraction of the law -/
structure FR (a b : Int) : Prop where
  pos : 1 ≤ b
  top : a.natAbs < 10 ^ 800
  bot : b.natAbs < 10 ^ 800
  one : Nat.gcd a.natAbs b.natAbs = 1
abbrev C12 (n : Nat) : PI.Ctx := pg.ctx (pg.call (n + 1)) true d__law_ratio
theorem natAbs_fdiv {a : Int} {g : Nat} (h : g ∣ a.natAbs) (hg : 0 < g) : (a.fdiv (g : Int)).natAbs = a.natAbs / g := by
  rw [Int.fdiv_eq_ediv_of_nonneg _ (by omega)]
  have : (g : Int) ∣ a := Int.ofNat_dvd_left.mpr h
  rw [Int.natAbs_ediv_of_dvd this]
  rfl
theorem call_ratio {a b : Int} (hb : 1 ≤ b) (ha : a.natAbs < 10 ^ 800) (hb2 : b.natAbs < 10 ^ 800) (n : Nat) : ∃ (a' b' : Int) (o : PI.Env), FR a' b' ∧ pg.call (n + 2) true 9 [.int a, .int b] = .ret (.tup [.int a', .int b']) o := by
  rw [call_eq (n := n + 1) (d := d__law_ratio) rfl rfl]
  obtain ⟨g, hg⟩ : ∃ g, g = Nat.gcd a.natAbs b.natAbs := ⟨_, rfl⟩
  have hg0 : 0 < g := by rw [hg]; exact Nat.gcd_pos_of_pos_right _ (by omega)
  have da : g ∣ a.natAbs := by rw [hg]; exact Nat.gcd_dvd_left _ _
  have db : g ∣ b.natAbs := by rw [hg]; exact Nat.gcd_dvd_right _ _
  have gb : g < 2 ^ 9000 := Nat.lt_of_le_of_lt (Nat.le_of_dvd (by omega) db) (Nat.lt_trans hb2 pow800)
  have gl : (g : Int).natAbs.log2 < 9000 := (Nat.log2_lt (by omega)).mpr (by rw [Int.natAbs_natCast]; exact gb)
  have q1 := natAbs_fdiv da hg0
  have q2 := natAbs_fdiv db hg0
  have fr : FR (a.fdiv (g : Int)) (b.fdiv (g : Int)) := by
    refine ⟨?_, ?_, ?_, ?_⟩
    · have h1 : 0 ≤ b.fdiv (g : Int) := by
        rw [Int.fdiv_eq_ediv_of_nonneg _ (by omega)]
        exact Int.ediv_nonneg (by omega) (by omega)
      have h2 : 0 < b.natAbs / g := Nat.div_pos (Nat.le_of_dvd (by omega) db) hg0
      omega
    · rw [q1]; exact Nat.lt_of_le_of_lt (Nat.div_le_self _ _) ha
    · rw [q2]; exact Nat.lt_of_le_of_lt (Nat.div_le_self _ _) hb2
    · rw [q1, q2, hg]
      exact Nat.gcd_div_gcd_div_gcd_of_pos_right (by omega)
  refine ⟨_, _, [some (.int a), some (.int b)], fr, ?_⟩
  let v0 : PI.Env := [some (.int a), some (.int b), none]
  let v1 : PI.Env := [some (.int a), some (.int b), some (.int (g : Int))]
  obtain ⟨o, hc⟩ := call_gcd (a := a) (b := b) (Nat.lt_trans hb2 pow800) n
  rw [← hg] at hc
  have s1 : exS (C12 n) (.set 2 (.call 8 (.cons (.var 0) (.cons (.var 1) .nil)))) v0 = .nx v1 :=
    set_is (i := 2) (call_vals (l := [.int a, .int b]) (evA_cons (ev_var rfl rfl rfl) (evA_cons (ev_var rfl rfl rfl) evA_nil)) hc) rfl
  have t1 : evT (C12 n) (.cmpT .Lt (.var 1) (.int 0)) v1 = .ok false v1 := ev_cmpT (x := .int b) (y := .int 0) (ev_var rfl rfl rfl) ev_int (by simp only [cmpD]; rw [decide_eq_false (by omega)])
  have g0 : (g : Int) ≠ 0 := by omega
  have e1 : evE (C12 n) (.tup (.cons (.bin .FloorDiv (.var 0) (.var 2)) (.cons (.bin .FloorDiv (.var 1) (.var 2)) .nil))) v1 = .ok (.tup [.int (a.fdiv (g : Int)), .int (b.fdiv (g : Int))]) v1 :=
    ev_tup (l := [.int (a.fdiv (g : Int)), .int (b.fdiv (g : Int))]) (evA_cons (ev_bin (ev_var (d := .int a) rfl rfl rfl) (ev_var (d := .int (g : Int)) rfl rfl rfl) (binD_div g0 gl)) (evA_cons (ev_bin (ev_var (d := .int b) rfl rfl rfl) (ev_var (d := .int (g : Int)) rfl rfl rfl) (binD_div g0 gl)) evA_nil)) (size_ok (by show 2 ≤ 200000; decide))
  show endC 2 (exSs (C12 n) b__law_ratio v0) = _
  unfold b__law_ratio
  rw [seq_nx s1, seq_nx ((if_f t1).trans seq_nil), seq_ret (ret_is e1)]
  rfl
end PI.KK
namespace PI.KK
open PySem K84
theorem call_vp {p : Prg} {cf : Bool → Nat → List PI.D → Cr} {calm : Bool} {d : Def} {v v1 o : PI.Env} {es : Es} {l : List PI.D} {x : PI.D} {f : Nat} (h : evA (p.ctx cf calm d) es v = .ok (l.map .d) v1) (hc : cf calm f l = .ret x o) : evE (p.ctx cf calm d) (.call f es) v = .ok x v1 := call_vals h hc
theorem below_get {sz ds : List Nat} (h : Below sz ds) (i : Nat) {d m : Nat} (h1 : ds[i]? = some d) (h2 : sz[i]? = some m) : d < m := by
  obtain ⟨m', e, l⟩ := h i d h1
  rw [h2] at e
  cases e
  exact l
theorem below_rep {n m : Nat} {ds : List Nat} (h : Below (List.replicate n m) ds) : ∀ c ∈ ds, c < m := by
  intro c hc
  obtain ⟨i, hi⟩ := List.mem_iff_getElem?.mp hc
  obtain ⟨m', e, l⟩ := h i c hi
  have := List.mem_of_getElem? e
  rw [List.mem_replicate] at this
  rw [this.2] at l
  exact l
theorem mul_lst {m A : Nat} (hA : A ≤ 1000) : binD .Mult (.lst .own [.int (m : Int)]) (.int (A : Int)) = some (.lst .own (nats (List.replicate A m))) := by
  have h1 : (List.replicate A [PI.D.int (m : Int)]).flatten = nats (List.replicate A m) := by
    simp [nats]
  have h2 : (D.frozenL [.int (m : Int)] && decide (([.int (m : Int)] : List PI.D).length * (A : Int).toNat ≤ sizeLine ∧ -(2 ^ 63) ≤ (A : Int) ∧ (A : Int) < 2 ^ 63)) = true := by
    simp only [D.frozenL, D.frozen, Bool.true_and, decide_eq_true_eq, List.length_cons, List.length_nil, Int.toNat_natCast]
    rw [sizeLine_eq]
    omega
  show (if (D.frozenL [.int (m : Int)] && decide (([.int (m : Int)] : List PI.D).length * (A : Int).toNat ≤ sizeLine ∧ -(2 ^ 63) ≤ (A : Int) ∧ (A : Int) < 2 ^ 63)) = true then some (PI.D.lst .own (List.replicate (A : Int).toNat [.int (m : Int)]).flatten) else none) = _
  rw [if_pos h2, Int.toNat_natCast, h1]
theorem if_set {C : PI.Ctx} {c : T} {i : Nat} {e : E} {v : PI.Env} {t : Bool} {d0 d1 : PI.D} (ht : evT C c v = .ok t v) (h : evE C e v = .ok d1 v) (hv : v.set i (some d0) = v) (hp : C.pr i = false) : exS C (.ife c (.cons (.set i e) .nil) .nil) v = .nx (v.set i (some (if t then d1 else d0))) := by
  cases t with
  | true => exact (if_t ht).trans ((seq_nx (set_is h hp)).trans seq_nil)
  | false => exact (if_f ht).trans (by rw [seq_nil]; simp [hv])
abbrev C13 (n : Nat) : PI.Ctx := pg.ctx (pg.call (n + 2)) true d__law_fraction
theorem call_fraction (ns : List Int) (at' : Nat) (hat : at' < 900) (n : Nat) : ∃ (a b : Int) (o : PI.Env), FR a b ∧ pg.call (n + 3) true 12 [SC ns, .int at'] = .ret (.tup [.int a, .int b]) o := by
  rw [call_eq (n := n + 2) (d := d__law_fraction) rfl rfl]
  let v0 : PI.Env := [some (SC ns), some (.int at'), none, none, none, none, none]
  obtain ⟨c0, o0, h0⟩ := call_cell ns at' (by omega) (n + 1)
  have h0 : pg.call (n + 2) true 6 [SC ns, .int at'] = .ret (.int c0) o0 := h0
  obtain ⟨c1, o1, h1⟩ := call_cell ns (at' + 1) (by omega) (n + 1)
  obtain ⟨c2, o2, h2⟩ := call_cell ns (at' + 2) (by omega) (n + 1)
  have q1 : ((at' + 1 : Nat) : Int) = (at' : Int) + 1 := by omega
  have q2 : ((at' + 2 : Nat) : Int) = (at' : Int) + 2 := by omega
  rw [q1] at h1
  rw [q2] at h2
  obtain ⟨ds, o3, hl, hb, h3⟩ := call_digits c0 [8, 2, 6, 6, 800, 800] (by decide) (by decide) (n + 1)
  have h3 : pg.call (n + 2) true 7 [.int c0, .lst .own (nats [8, 2, 6, 6, 800, 800])] = .ret (.lst .frz (nats ds)) o3 := h3
  match ds, hl with
  | [d0, d1, d2, d3, d4, d5], _ =>
  have b2 := below_get hb 2 rfl rfl
  have b3 := below_get hb 3 rfl rfl
  have b4 := below_get hb 4 rfl rfl
  have b5 := below_get hb 5 rfl rfl
  let L : PI.D := .lst .frz (nats [d0, d1, d2, d3, d4, d5])
  let v1 : PI.Env := [some (SC ns), some (.int at'), some L, none, none, none, none]
  have sc : ∀ v : PI.Env, getV v 0 = some (SC ns) → v.set 0 (some (SC ns)) = v → evE (C13 n) (.var 0) v = .ok (SC ns) v := fun v g1 g2 => ev_var g1 (frz_sc ns) g2
  have s1 : exS (C13 n) (.set 2 (.call 7 (.cons (.call 6 (.cons (.var 0) (.cons (.var 1) .nil))) (.cons (.lst (.cons (.int 8) (.cons (.int 2) (.cons (.int 6) (.cons (.int 6) (.cons (.int 800) (.cons (.int 800) .nil))))))) .nil)))) v0 = .nx v1 :=
    set_is (i := 2) (call_vp (f := 7) (l := [.int c0, .lst .own (nats [8, 2, 6, 6, 800, 800])]) (evA_cons (call_vp (f := 6) (l := [SC ns, .int at']) (evA_cons (sc v0 rfl rfl) (evA_cons (ev_var rfl rfl rfl) evA_nil)) h0)
      (evA_cons (ev_lst (l := nats [8, 2, 6, 6, 800, 800]) (evA_cons ev_int (evA_cons ev_int (evA_cons ev_int (evA_cons ev_int (evA_cons ev_int (evA_cons ev_int evA_nil)))))) (size_ok (by simp))) evA_nil)) h3) rfl
  let vv (A B : Int) : PI.Env := [some (SC ns), some (.int at'), some L, some (.int A), some (.int B), none, none]
  have ix : ∀ (k d : Nat) (v : PI.Env), getV v 2 = some L → ([d0, d1, d2, d3, d4, d5] : List Nat)[k]? = some d → evE (C13 n) (.ixv 2 (.int (k : Int))) v = .ok (.int (d : Int)) v := fun k d v g e => by
    refine ixv_is g ev_int (k := .int (k : Int)) ?_ rfl
    exact L2.atI_nat (by rw [List.getElem?_map, e]; rfl)
  have s2 : exS (C13 n) (.set 3 (.bin .Add (.int 1) (.ixv 2 (.int 2)))) v1 = .nx [some (SC ns), some (.int at'), some L, some (.int (1 + (d2 : Int))), none, none, none] := set_is (i := 3) (ev_bin ev_int (ix 2 d2 _ rfl rfl) (binD_addI _ _)) rfl
  have s3 : exS (C13 n) (.set 4 (.bin .Add (.int 1) (.ixv 2 (.int 3)))) [some (SC ns), some (.int at'), some L, some (.int (1 + (d2 : Int))), none, none, none] = .nx (vv (1 + (d2 : Int)) (1 + (d3 : Int))) := set_is (i := 4) (ev_bin ev_int (ix 3 d3 _ rfl rfl) (binD_addI _ _)) rfl
  have s4 : ∃ A B : Nat, 1 ≤ A ∧ A ≤ 800 ∧ 1 ≤ B ∧ B ≤ 800 ∧ exS (C13 n) (.ife (.cmpT .Eq (.ixv 2 (.int 0)) (.int 0)) (.cons (.set 3 (.bin .Add (.int 1) (.ixv 2 (.int 4)))) (.cons (.set 4 (.bin .Add (.int 1) (.ixv 2 (.int 5)))) .nil)) .nil) (vv (1 + (d2 : Int)) (1 + (d3 : Int))) = .nx (vv A B) := by
    have t : evT (C13 n) (.cmpT .Eq (.ixv 2 (.int 0)) (.int 0)) (vv (1 + (d2 : Int)) (1 + (d3 : Int))) = .ok (decide ((d0 : Int) = 0)) (vv (1 + (d2 : Int)) (1 + (d3 : Int))) := ev_cmpT (ix 0 d0 _ rfl rfl) ev_int rfl
    by_cases h : (d0 : Int) = 0
    · rw [decide_eq_true h] at t
      refine ⟨1 + d4, 1 + d5, by omega, by omega, by omega, by omega, (if_t t).trans ?_⟩
      exact (seq_nx (set_is (i := 3) (ev_bin ev_int (ix 4 d4 _ rfl rfl) (binD_addI _ _)) rfl)).trans ((seq_nx (set_is (i := 4) (ev_bin ev_int (ix 5 d5 _ rfl rfl) (binD_addI _ _)) rfl)).trans seq_nil)
    · rw [decide_eq_false h] at t
      refine ⟨1 + d2, 1 + d3, by omega, by omega, by omega, by omega, (if_f t).trans ?_⟩
      rw [seq_nil]
      rfl
  obtain ⟨A, B, A1, A2, B1, B2, s4⟩ := s4
  have num : ∀ (D : Nat) (c j : Int) (i : Nat) (o : PI.Env) (v : PI.Env), 1 ≤ D → D ≤ 800 → pg.call (n + 2) true 6 [SC ns, .int ((at' : Int) + j)] = .ret (.int c) o → getV v 0 = some (SC ns) → v.set 0 (some (SC ns)) = v → getV v 1 = some (.int at') → v.set 1 (some (.int at')) = v → getV v i = some (.int D) → v.set i (some (.int D)) = v →
      ∃ N : Nat, N < 10 ^ 800 ∧ evE (C13 n) (.call 11 (.cons (.call 7 (.cons (.call 6 (.cons (.var 0) (.cons (.bin .Add (.var 1) (.int j)) .nil))) (.cons (.bin .Mult (.lst (.cons (.int 10) .nil)) (.var i)) .nil))) .nil)) v = .ok (.int (N : Int)) v := by
    intro D c j i o v D1 D2 hc g0 g0' g1 g1' g2 g2'
    obtain ⟨es, o4, el, eb, h4⟩ := call_digits c (List.replicate D 10) (by intro m hm; rw [List.mem_replicate] at hm; omega) (by simp; omega) (n + 1)
    obtain ⟨o5, h5⟩ := call_joined es .frz (n + 1)
    have e10 := below_rep eb
    have h4 : pg.call (n + 2) true 7 [.int c, .lst .own (nats (List.replicate D 10))] = .ret (.lst .frz (nats es)) o4 := by
        show pg.call (n + 2) true 7 [.int c, .lst .own (nats (List.replicate D 10))] = .ret (.lst .frz (nats es)) o4
        exact h4
    have h5 : pg.call (n + 2) true 11 [.lst .frz (nats es)] = _ := h5
    have jl := joined_lt es 0 e10
    rw [el, List.length_replicate] at jl
    refine ⟨es.foldl (fun acc c => acc * 10 + c) 0, ?_, ?_⟩
    · have : 10 ^ D ≤ 10 ^ 800 := Nat.pow_le_pow_right (by decide) D2
      generalize 10 ^ 800 = P at this ⊢
      omega
    · have cell : evE (C13 n) (.call 6 (.cons (.var 0) (.cons (.bin .Add (.var 1) (.int j)) .nil))) v = .ok (.int c) v :=
        call_vp (f := 6) (l := [SC ns, .int ((at' : Int) + j)]) (evA_cons (sc v g0 g0') (evA_cons (ev_bin (ev_var g1 rfl g1') ev_int (binD_addI _ _)) evA_nil)) hc
      have lm : evE (C13 n) (.lst (.cons (.int 10) .nil)) v = .ok (.lst .own [.int ((10 : Nat) : Int)]) v := ev_lst (l := [.int ((10 : Nat) : Int)]) (evA_cons ev_int evA_nil) (size_ok (by simp))
      have mm := mul_lst (m := 10) (A := D) (by omega)
      have gv : evE (C13 n) (.var i) v = .ok (.int (D : Int)) v := ev_var g2 rfl g2'
      have lm2 : evE (C13 n) (.bin .Mult (.lst (.cons (.int 10) .nil)) (.var i)) v = .ok (.lst .own (nats (List.replicate D 10))) v := ev_bin lm gv mm
      have dg : evE (C13 n) (.call 7 (.cons (.call 6 (.cons (.var 0) (.cons (.bin .Add (.var 1) (.int j)) .nil))) (.cons (.bin .Mult (.lst (.cons (.int 10) .nil)) (.var i)) .nil))) v = .ok (.lst .frz (nats es)) v := call_vp (f := 7) (l := [.int c, .lst .own (nats (List.replicate D 10))]) (evA_cons cell (evA_cons lm2 evA_nil)) h4
      exact call_vp (f := 11) (l := [.lst .frz (nats es)]) (evA_cons dg evA_nil) h5
  obtain ⟨N1, N1l, e5⟩ := num A c1 1 3 o1 (vv A B) A1 A2 h1 rfl rfl rfl rfl rfl rfl
  let v5 : PI.Env := [some (SC ns), some (.int at'), some L, some (.int A), some (.int B), some (.int N1), none]
  have s5 := set_is (C := C13 n) (i := 5) e5 rfl
  obtain ⟨N2, N2l, e6⟩ := num B c2 2 4 o2 v5 B1 B2 h2 rfl rfl rfl rfl rfl rfl
  have hmax : ∃ M : Nat, 1 ≤ M ∧ M < 10 ^ 800 ∧ biF .max [.int 1, .int (N2 : Int)] = some (.int (M : Int)) := by
    by_cases h : (N2 : Int) > 1
    · exact ⟨N2, by omega, N2l, by simp only [biF, if_pos h]⟩
    · exact ⟨1, by omega, Nat.one_lt_pow (by decide) (by decide), by simp only [biF, if_neg h]; rfl⟩
  obtain ⟨M, M1, M2, hmax⟩ := hmax
  have e7 : evE (C13 n) (.bi .max (.cons (.int 1) (.cons (.call 11 (.cons (.call 7 (.cons (.call 6 (.cons (.var 0) (.cons (.bin .Add (.var 1) (.int 2)) .nil))) (.cons (.bin .Mult (.lst (.cons (.int 10) .nil)) (.var 4)) .nil))) .nil)) .nil))) v5 = .ok (.int (M : Int)) v5 :=
    ev_bi (as := [.d (.int 1), .d (.int (N2 : Int))]) rfl (evA_cons ev_int (evA_cons e6 evA_nil)) rfl hmax
  let v6 : PI.Env := [some (SC ns), some (.int at'), some L, some (.int A), some (.int B), some (.int N1), some (.int M)]
  have s6 : exS (C13 n) _ v5 = .nx v6 := set_is (C := C13 n) (i := 6) e7 rfl
  have t7 : evT (C13 n) (.cmpT .Eq (.ixv 2 (.int 0)) (.int 1)) v6 = .ok (decide ((d0 : Int) = 1)) v6 := ev_cmpT (ix 0 d0 _ rfl rfl) ev_int rfl
  have s7 : ∃ M' : Int, 1 ≤ M' ∧ M'.natAbs < 10 ^ 800 ∧ exS (C13 n) (.ife (.cmpT .Eq (.ixv 2 (.int 0)) (.int 1)) (.cons (.set 6 (.int 1)) .nil) .nil) v6 = .nx [some (SC ns), some (.int at'), some L, some (.int A), some (.int B), some (.int N1), some (.int M')] := by
    have q := if_set (C := C13 n) (i := 6) (e := .int 1) (d0 := .int (M : Int)) (d1 := .int 1) t7 ev_int rfl rfl
    by_cases h : (d0 : Int) = 1
    · rw [decide_eq_true h] at q
      exact ⟨1, by omega, Nat.one_lt_pow (by decide) (by decide), q⟩
    · rw [decide_eq_false h] at q
      exact ⟨M, by omega, M2, q⟩
  obtain ⟨M', P1, P2, s7⟩ := s7
  let v7 : PI.Env := [some (SC ns), some (.int at'), some L, some (.int A), some (.int B), some (.int N1), some (.int M')]
  have t8 : evT (C13 n) (.cmpT .Eq (.ixv 2 (.int 1)) (.int 1)) v7 = .ok (decide ((d1 : Int) = 1)) v7 := ev_cmpT (ix 1 d1 _ rfl rfl) ev_int rfl
  have s8 : ∃ T : Int, T.natAbs < 10 ^ 800 ∧ exS (C13 n) (.ife (.cmpT .Eq (.ixv 2 (.int 1)) (.int 1)) (.cons (.set 5 (.neg (.var 5))) .nil) .nil) v7 = .nx [some (SC ns), some (.int at'), some L, some (.int A), some (.int B), some (.int T), some (.int M')] := by
    have e : evE (C13 n) (.neg (.var 5)) v7 = .ok (.int (-(N1 : Int))) v7 := by
      have g : evE (C13 n) (.var 5) v7 = .ok (.int (N1 : Int)) v7 := ev_var rfl rfl rfl
      simp only [evE] at g ⊢
      rw [g]
      rfl
    have q := if_set (C := C13 n) (i := 5) (d0 := .int (N1 : Int)) t8 e rfl rfl
    by_cases h : (d1 : Int) = 1
    · rw [decide_eq_true h] at q
      exact ⟨-(N1 : Int), by rw [Int.natAbs_neg]; exact N1l, q⟩
    · rw [decide_eq_false h] at q
      exact ⟨(N1 : Int), N1l, q⟩
  obtain ⟨T, T1, s8⟩ := s8
  obtain ⟨a, b, o9, fr, h9⟩ := call_ratio P1 T1 P2 n
  refine ⟨a, b, [some (SC ns), some (.int at')], fr, ?_⟩
  show endC 2 (exSs (C13 n) b__law_fraction v0) = _
  unfold b__law_fraction
  rw [seq_nx s1, seq_nx s2, seq_nx s3, seq_nx s4, seq_nx s5]
  refine (congrArg (endC 2) ((seq_nx s6).trans ((seq_nx s7).trans ((seq_nx s8).trans (seq_ret (ret_is (call_vp (f := 9) (l := [.int T, .int M']) (evA_cons (ev_var rfl rfl rfl) (evA_cons (ev_var rfl rfl rfl) evA_nil)) h9))))))).trans ?_
  rfl
end PI.KK
namespace PI.KK
open PySem K84
/-! ### the word of a number, and back -/
theorem digits_len : ∀ (k m : Nat), 1 ≤ k → m < 10 ^ k → (Nat.toDigits 10 m).length ≤ k
  | 0, m, h, _ => by omega
  | 1, m, _, h => by
    rw [Nat.toDigits_of_lt_base (by simpa using h)]
    simp
  | k + 2, m, _, h => by
    by_cases h10 : m < 10
    · rw [Nat.toDigits_of_lt_base h10]
      simp
    · have hm : m % 10 < 10 := Nat.mod_lt m (by decide)
      have t : Nat.toDigits 10 (m / 10) ++ Nat.toDigits 10 (m % 10) = Nat.toDigits 10 (10 * (m / 10) + m % 10) := Nat.toDigits_append_toDigits (by decide) (by omega) hm
      rw [Nat.div_add_mod] at t
      rw [← t, List.length_append, Nat.toDigits_of_lt_base hm]
      have e : 10 ^ (k + 2) = 10 * 10 ^ (k + 1) := by rw [Nat.pow_succ, Nat.mul_comm]
      have := digits_len (k + 1) (m / 10) (by omega) (by generalize 10 ^ (k + 1) = P at e; omega)
      simp
      omega
theorem digits_head (m : Nat) : 0 < m → ∃ c r, Nat.toDigits 10 m = c :: r ∧ c.toNat ≠ 48 := by
  induction m using Nat.strongRecOn with
  | _ m ih =>
    intro h0
    by_cases h : m < 10
    · rw [Nat.toDigits_of_lt_base h]
      refine ⟨_, _, rfl, ?_⟩
      have : ∀ d : Nat, d < 10 → 0 < d → (Nat.digitChar d).toNat ≠ 48 := by decide
      exact this m h h0
    · have hm : m % 10 < 10 := Nat.mod_lt m (by decide)
      have t : Nat.toDigits 10 (m / 10) ++ Nat.toDigits 10 (m % 10) = Nat.toDigits 10 (10 * (m / 10) + m % 10) := Nat.toDigits_append_toDigits (by decide) (by omega) hm
      rw [Nat.div_add_mod] at t
      obtain ⟨c, r, e, hc⟩ := ih (m / 10) (by omega) (by omega)
      rw [← t, e]
      exact ⟨c, r ++ _, rfl, hc⟩
def digL (m : Nat) : List Nat := (Nat.toDigits 10 m).map Char.toNat
theorem digL_all (m : Nat) : NumText.AllDigits (digL m) := by
  intro c hc
  obtain ⟨ch, hch, e⟩ := List.mem_map.mp hc
  have r := PyProof.Rows.digit_range (Nat.isDigit_of_mem_toDigits (by decide) (by decide) hch)
  rw [← e]
  exact r
theorem digL_ne (m : Nat) : digL m ≠ [] := by
  by_cases h : m = 0
  · subst h; decide
  · obtain ⟨c, r, e, _⟩ := digits_head m (by omega)
    unfold digL
    rw [e]
    simp
theorem int_list (i : Int) : (Str.ofString (toString i)).cps.toList = if 0 ≤ i then digL i.natAbs else 45 :: digL i.natAbs := by
  rw [PyProof.Rows.signs_ofString, Int.toString_eq_repr, Int.repr_eq_if]
  by_cases h : 0 ≤ i
  · have e : i.toNat = i.natAbs := by omega
    rw [if_pos h, if_pos h, Nat.toList_repr, e]
    rfl
  · have e : (-i).toNat = i.natAbs := by omega
    rw [if_neg h, if_neg h, String.toList_append, Nat.toList_repr, e]
    rfl
theorem NW_int {i : Int} (h : i.natAbs < 10 ^ 800) : NW (Str.ofString (toString i)) = some i := by
  have hL := int_list i
  obtain ⟨w, hw⟩ : ∃ w, w = Str.ofString (toString i) := ⟨_, rfl⟩
  rw [← hw] at hL ⊢
  have len := digits_len 800 i.natAbs (by decide) h
  have lenL : (digL i.natAbs).length ≤ 800 := by unfold digL; rw [List.length_map]; exact len
  have val : NumText.digitsVal (digL i.natAbs) = i.natAbs := PySem.W.KIN.val_back i.natAbs
  by_cases h0 : 0 ≤ i
  · rw [if_pos h0] at hL
    have hneg : negW w = false := by
      unfold negW
      rw [decide_eq_false]
      rw [head_minus]
      rintro ⟨cs, e⟩
      rw [hL] at e
      have := digL_all i.natAbs 45 (by rw [e]; simp)
      omega
    have hd : digW w = w := by unfold digW; rw [hneg]; rfl
    have hwl : w.length ≤ 800 := by rw [← len_list, hL]; exact lenL
    unfold NW
    rw [hd, hL, hneg, if_neg (by rintro (z | z); exact digL_ne _ z; omega), all_isD.mpr (digL_all _), if_neg (by simp), val]
    rw [if_neg]
    · simp only [Bool.false_eq_true, if_false, Option.some.injEq]
      omega
    · rintro ⟨z1, z2⟩
      by_cases hm : i.natAbs = 0
      · apply z2
        rw [hm] at hL
        exact str_ext (hL.trans (by decide +kernel))
      · obtain ⟨c, r, e, hc⟩ := digits_head i.natAbs (by omega)
        unfold digL at z1
        rw [e] at z1
        simp at z1
        exact hc z1
  · rw [if_neg h0] at hL
    have hneg : negW w = true := by
      unfold negW
      rw [decide_eq_true_eq, head_minus]
      exact ⟨_, hL⟩
    have hd : (digW w).cps.toList = digL i.natAbs := by
      unfold digW
      rw [if_pos hneg, cut_tail, hL]
      rfl
    have hwl : (digW w).length ≤ 800 := by rw [← len_list, hd]; exact lenL
    unfold NW
    rw [hd, hneg, if_neg (by rintro (z | z); exact digL_ne _ z; omega), all_isD.mpr (digL_all _), if_neg (by simp), val]
    rw [if_neg]
    · simp only [if_true, Option.some.injEq]
      omega
    · rintro ⟨z1, z2⟩
      obtain ⟨c, r, e, hc⟩ := digits_head i.natAbs (by omega)
      unfold digL at z1
      rw [e] at z1
      simp at z1
      exact hc z1
theorem slash_is : ("/" : Str) = ⟨#[47]⟩ := by decide +kernel
theorem at_one {w : Str} {c i : Nat} : StrLaws.At w ⟨#[c]⟩ w.length i ↔ w.cps.toList[i]? = some c := by
  unfold StrLaws.At
  rw [StrLaws.subAt_eq]
  have e1 : (⟨#[c]⟩ : Str).length = 1 := rfl
  rw [e1]
  constructor
  · rintro ⟨_, h2⟩
    have h3 := beq_iff_eq.mp h2
    have h4 : ((w.cps.toList.drop i).take 1)[0]? = some c := by rw [h3]; rfl
    rw [List.getElem?_take_of_lt (by decide), List.getElem?_drop] at h4
    simpa using h4
  · intro h
    have hi := (List.getElem?_eq_some_iff.mp h).1
    rw [len_list] at hi
    refine ⟨by omega, beq_iff_eq.mpr ?_⟩
    apply List.ext_getElem?
    intro n
    cases n with
    | zero =>
      rw [List.getElem?_take_of_lt (by decide), List.getElem?_drop]
      simpa using h
    | succ n =>
      rw [List.getElem?_take_eq_none (by omega)]
      rfl
theorem occ_one_none {w : Str} {c : Nat} (h : c ∉ w.cps.toList) : Builtin.Str.occurrences w ⟨#[c]⟩ 0 w.length 1 = [] := by
  rcases StrLaws.occ_head w ⟨#[c]⟩ 1 (Nat.le_refl _) with ⟨e, _⟩ | ⟨i, r, _, ha, _⟩
  · exact e
  · exact absurd (List.mem_of_getElem? (at_one.mp ha)) h
theorem occ_one_at {a b : Str} {c : Nat} (h : c ∉ a.cps.toList) : Builtin.Str.occurrences (a ++ ⟨#[c]⟩ ++ b) ⟨#[c]⟩ 0 (a ++ ⟨#[c]⟩ ++ b).length 1 = [a.length] := by
  have hl : (a ++ ⟨#[c]⟩ ++ b).cps.toList = a.cps.toList ++ c :: b.cps.toList := by
    simp [Str.cps_append]
  have hat : StrLaws.At (a ++ ⟨#[c]⟩ ++ b) ⟨#[c]⟩ (a ++ ⟨#[c]⟩ ++ b).length a.length := by
    rw [at_one, hl, List.getElem?_append_right (by rw [len_list]; exact Nat.le_refl _), len_list]
    simp
  have hlim := StrLaws.occ_length_le (a ++ ⟨#[c]⟩ ++ b) ⟨#[c]⟩ 0 (a ++ ⟨#[c]⟩ ++ b).length 1
  rcases StrLaws.occ_head (a ++ ⟨#[c]⟩ ++ b) ⟨#[c]⟩ 1 (Nat.le_refl _) with ⟨e, hn⟩ | ⟨i, r, e, ha, hn⟩
  · exact absurd hat (hn _)
  · rw [e] at hlim ⊢
    have hr : r = [] := by
      cases r with
      | nil => rfl
      | cons => simp at hlim
    subst hr
    have hi := at_one.mp ha
    rw [hl] at hi
    by_cases h1 : i < a.length
    · rw [List.getElem?_append_left (by rw [len_list]; exact h1)] at hi
      exact absurd (List.mem_of_getElem? hi) h
    · by_cases h2 : a.length < i
      · exact absurd hat (hn _ h2)
      · rw [show i = a.length by omega]
/-- the word of a fraction -/
def wr (a b : Int) : Str := if b = 1 then Str.ofString (toString a) else Str.ofString (toString a) ++ "/" ++ Str.ofString (toString b)
theorem no_slash (i : Int) : 47 ∉ (Str.ofString (toString i)).cps.toList := PyProof.Rows.int_text_free 47 (by decide) i
theorem FW_wr {a b : Int} (h : FR a b) : FW (wr a b) = some (a, b) := by
  unfold wr FW occW
  by_cases hb : b = 1
  · subst hb
    rw [if_pos rfl, slash_is, occ_one_none (no_slash a)]
    simp only [NW_int h.top, Option.map_some]
  · rw [if_neg hb, slash_is, occ_one_at (no_slash a)]
    have e1 : topW (Str.ofString (toString a) ++ ⟨#[47]⟩ ++ Str.ofString (toString b)) (Str.ofString (toString a)).length = Str.ofString (toString a) := by
      apply str_ext
      unfold topW
      rw [StrLaws.strSub_toList, ← len_list]
      simp [Str.cps_append]
    have e2 : botW (Str.ofString (toString a) ++ ⟨#[47]⟩ ++ Str.ofString (toString b)) (Str.ofString (toString a)).length = Str.ofString (toString b) := by
      apply str_ext
      unfold botW
      rw [StrLaws.strSub_toList, Str.length_append, Str.length_append]
      have e3 : (⟨#[47]⟩ : Str).length = 1 := rfl
      rw [e3]
      have e4 : (Str.ofString (toString a) ++ ⟨#[47]⟩ ++ Str.ofString (toString b)).cps.toList = ((Str.ofString (toString a)).cps.toList ++ [47]) ++ (Str.ofString (toString b)).cps.toList := by simp [Str.cps_append]
      rw [e4, List.drop_left' (by simp [Str.length]), List.take_of_length_le (by rw [len_list]; omega)]
    simp only [e1, e2, NW_int h.top, NW_int h.bot]
    have hp := h.pos
    rw [if_neg]
    rintro (z | z)
    · omega
    · exact z h.one
theorem int_ok {i : Int} (h : i.natAbs < 10 ^ 900) : Ok (Str.ofString (toString i)) := by
  refine ⟨?_, ?_⟩
  · rw [ofString_length]
    have := int_text_length_le10 (k := 900) (by decide) h
    omega
  · intro c hc
    rw [int_list] at hc
    split at hc
    · have := digL_all _ c hc; omega
    · rcases List.mem_cons.mp hc with z | z
      · omega
      · have := digL_all _ c z; omega
theorem int_lenw {i : Int} (h : i.natAbs < 10 ^ 900) : (Str.ofString (toString i)).length ≤ 901 := by
  rw [ofString_length]
  exact int_text_length_le10 (k := 900) (by decide) h
end PI.KK
namespace PI.KK
open PySem K84
structure OkN (n : Nat) (w : Str) : Prop where
  len : w.length ≤ n
  low : ∀ c ∈ w.cps.toList, c < 256
theorem OkN.ok {n : Nat} {w : Str} (h : OkN n w) (hn : n ≤ 100000) : Ok w := ⟨Nat.le_trans h.len hn, h.low⟩
theorem OkN.mono {m n : Nat} {w : Str} (h : OkN m w) (hn : m ≤ n) : OkN n w := ⟨Nat.le_trans h.len hn, h.low⟩
theorem OkN.append {m n : Nat} {x y : Str} (hx : OkN m x) (hy : OkN n y) : OkN (m + n) (x ++ y) := by
  refine ⟨?_, fun c hc => ?_⟩
  · rw [Str.length_append]
    have := hx.len
    have := hy.len
    omega
  · rw [Str.cps_append, Array.toList_append, List.mem_append] at hc
    exact hc.elim (hx.low c) (hy.low c)
theorem OkN.cut {n : Nat} {w : Str} (h : OkN n w) (lo hi : Option Int) : OkN n (L2.cutS w lo hi) := by
  refine ⟨Nat.le_trans (L2.cutS_length w lo hi) h.len, fun c hc => h.low c ?_⟩
  unfold L2.cutS at hc
  simp only [List.toList_toArray] at hc
  exact List.mem_of_mem_drop (List.mem_of_mem_take hc)
theorem OkN.one {c : Nat} (hc : c < 256) : OkN 1 ⟨#[c]⟩ := ⟨Nat.le_refl _, fun d hd => by
  have : d = c := by simpa using hd
  omega⟩
theorem int_okN {i : Int} (h : i.natAbs < 10 ^ 900) : OkN 901 (Str.ofString (toString i)) := ⟨int_lenw h, (int_ok h).low⟩
theorem p89 : 10 ^ 800 < 10 ^ 900 := Nat.pow_lt_pow_right (by decide) (by decide)
theorem wr_okN {a b : Int} (h : FR a b) : OkN 1803 (wr a b) := by
  have h1 := int_okN (Nat.lt_trans h.top p89)
  have h2 := int_okN (Nat.lt_trans h.bot p89)
  unfold wr
  split
  · exact h1.mono (by decide)
  · exact (h1.append (n := 1) ⟨by decide +kernel, by decide +kernel⟩).append h2
theorem p9d : 10 ^ 900 < digLim := by rw [digLim_def]; exact Nat.pow_lt_pow_right (by decide) (by decide)
/-! ### _law_written, format_ratio -/
abbrev C14 (n : Nat) : PI.Ctx := pg.ctx (pg.call (n + 1)) true d__law_written
theorem get2 {C : PI.Ctx} {x y : PI.D} {v : PI.Env} {o : Ow} {i : Nat} (hx : x.frozen = true) (hy : y.frozen = true) (h : getV v i = some (.tup [x, y]) ∨ getV v i = some (.lst o [x, y])) : evE C (.ixv i (.int 0)) v = .ok x v ∧ evE C (.ixv i (.int 1)) v = .ok y v := by
  rcases h with h | h
  · exact ⟨ixv_is h ev_int rfl hx, ixv_is h ev_int rfl hy⟩
  · exact ⟨ixv_is h ev_int rfl hx, ixv_is h ev_int rfl hy⟩
theorem str_int {C : PI.Ctx} {e : E} {v : PI.Env} {a : Int} (h : evE C e v = .ok (.int a) v) (ha : a.natAbs < 10 ^ 900) : evE C (.bi .str (.cons e .nil)) v = .ok (.str (Str.ofString (toString a))) v :=
  ev_bi (l := [.int a]) (as := [.d (.int a)]) rfl (evA_cons h evA_nil) rfl (biF_str (Nat.lt_trans ha p9d))
theorem call_written {a b : Int} (h : FR a b) (n : Nat) : ∃ o, pg.call (n + 2) true 13 [.tup [.int a, .int b]] = .ret (.str (wr a b)) o := by
  rw [call_eq (n := n + 1) (d := d__law_written) rfl rfl]
  let v : PI.Env := [some (.tup [.int a, .int b])]
  refine ⟨v, ?_⟩
  show endC 1 (exSs (C14 n) b__law_written v) = _
  have g := get2 (C := C14 n) (x := .int a) (y := .int b) (v := v) (o := .own) (i := 0) rfl rfl (.inl rfl)
  have ta := Nat.lt_trans h.top p89
  have tb := Nat.lt_trans h.bot p89
  have t : evT (C14 n) (.ev (.call 4 (.cons (.ixv 0 (.int 1)) (.cons (.int 1) .nil)))) v = .ok (decide (b = 1)) v :=
    ev_ev (call_vp (l := [.int b, .int 1]) (evA_cons g.2 (evA_cons ev_int evA_nil)) (is_int (n := n) (calm := true) (Nat.lt_trans tb p9d) (Nat.lt_trans (Nat.one_lt_pow (by decide) (by decide) : 1 < 10 ^ 900) p9d))) rfl
  have sa := str_int g.1 ta
  have sb := str_int g.2 tb
  have w := wr_okN h
  unfold b__law_written
  unfold wr at w ⊢
  by_cases hb : b = 1
  · rw [if_pos hb]
    rw [decide_eq_true hb] at t
    rw [seq_ret ((if_t t).trans (seq_ret (ret_is sa)))]
    rfl
  · rw [if_neg hb] at w ⊢
    rw [decide_eq_false hb] at t
    have l1 := int_lenw ta
    have l2 := int_lenw tb
    rw [seq_nx ((if_f t).trans seq_nil)]
    rw [seq_ret (ret_is (ev_bin (ev_bin sa ev_str (binD_addS (by rw [slash_len, sizeLine_eq]; omega))) sb (binD_addS (by rw [Str.length_append, slash_len, sizeLine_eq]; omega))))]
    rfl
theorem ev_fst {C : PI.Ctx} {a c : E} {z p q : Str} {v : PI.Env} {x y : PI.D} (hc : C.calm = true) (ha : evE C a v = .ok x v) (hp : fmtD x = some p) (k1 : p.length + z.length ≤ sizeLine) (hb : evE C c v = .ok y v) (hq : fmtD y = some q) (k2 : p.length + z.length + q.length ≤ sizeLine) :
    evE C (.fst a z c) v = .ok (.str (p ++ z ++ q)) v := by
  rw [evE]
  simp only [hc, if_true, ha, R.bind_ok, hp, R.of_some, if_pos k1, hb, hq, if_pos k2]
abbrev C15 (n : Nat) : PI.Ctx := pg.ctx (pg.call n) true d_format_ratio
theorem call_format {a b : Int} (h : FR a b) (n : Nat) (x : PI.D) (o : Ow) (hx : x = .tup [.int a, .int b] ∨ x = .lst o [.int a, .int b]) : pg.call (n + 1) true 3 [x] = .ret (.str (wr a b)) [some x] := by
  rw [call_eq (n := n) (d := d_format_ratio) rfl (by rfl)]
  let v : PI.Env := [some x]
  show endC 1 (exSs (C15 n) b_format_ratio v) = _
  have g := get2 (C := C15 n) (x := .int a) (y := .int b) (v := v) (o := o) (i := 0) rfl rfl (hx.imp (fun h => by rw [← h]; rfl) (fun h => by rw [← h]; rfl))
  have ta := Nat.lt_trans h.top p89
  have tb := Nat.lt_trans h.bot p89
  have t : evT (C15 n) (.cmpT .Eq (.ixv 0 (.int 1)) (.int 1)) v = .ok (decide (b = 1)) v := ev_cmpT g.2 ev_int rfl
  have sa := str_int g.1 ta
  unfold b_format_ratio
  unfold wr
  by_cases hb : b = 1
  · rw [if_pos hb]
    rw [decide_eq_true hb] at t
    rw [seq_ret ((if_t t).trans (seq_ret (ret_is sa)))]
    rfl
  · rw [if_neg hb]
    rw [decide_eq_false hb] at t
    have l1 := int_lenw ta
    have l2 := int_lenw tb
    rw [seq_nx ((if_f t).trans seq_nil)]
    have f1 := fmtD_int (Nat.lt_trans ta p9d)
    have f2 := fmtD_int (Nat.lt_trans tb p9d)
    have e : evE (C15 n) (.fst (.ixv 0 (.int 0)) "/" (.ixv 0 (.int 1))) v = .ok (.str (Str.ofString (toString a) ++ "/" ++ Str.ofString (toString b))) v := by
      have c1 : (C15 n).calm = true := rfl
      have k1 : (Str.ofString (toString a)).length + ("/" : Str).length ≤ sizeLine := by rw [slash_len, sizeLine_eq]; omega
      have k2 : (Str.ofString (toString a)).length + ("/" : Str).length + (Str.ofString (toString b)).length ≤ sizeLine := by rw [slash_len, sizeLine_eq]; omega
      exact ev_fst c1 g.1 f1 k1 g.2 f2 k2
    rw [seq_ret (ret_is e)]
    rfl
/-! ### _law_sign -/
theorem ix_str {z : Str} {i : Int} (hz : z.length ≤ 1000) (h0 : 0 ≤ i) (h1 : i < z.length) (hl : ∀ c ∈ z.cps.toList, c < 256) : ∃ x, OkN 1 x ∧ PI.ixD (.str z) (.int i) = some (.str x) := by
  obtain ⟨k, rfl⟩ := Int.eq_ofNat_of_zero_le h0
  have hk : k < z.cps.toList.length := by rw [len_list]; omega
  have hg : z.cps.toList[k]? = some z.cps.toList[k] := List.getElem?_eq_getElem hk
  refine ⟨⟨#[z.cps.toList[k]]⟩, OkN.one (hl _ (List.getElem_mem hk)), ?_⟩
  have hs : z.length ≤ sizeLine := size_ok (by omega)
  simp only [PI.ixD, if_pos hs, L2.atI_nat hg, Option.map_some]
abbrev C16 (n : Nat) : PI.Ctx := pg.ctx (pg.call n) true d__law_sign
theorem call_sign {k : Int} (n : Nat) : ∃ (x : Str) (o : PI.Env), OkN 1 x ∧ pg.call (n + 1) true 16 [.int k] = .ret (.str x) o := by
  rw [call_eq (n := n) (d := d__law_sign) rfl rfl]
  let v : PI.Env := [some (.int k), none]
  have m2 : evE (C16 n) (.bin .Mod (.biv .int 0) (.int 2)) v = .ok (.int (k.fmod 2)) v := ev_bin (ev_biv (d := .int k) rfl rfl rfl) ev_int (binD_mod (by decide))
  have t : evT (C16 n) (.cmpT .Eq (.bin .Mod (.biv .int 0) (.int 2)) (.int 0)) v = .ok (decide (k.fmod 2 = 0)) v := ev_cmpT m2 ev_int rfl
  have dv : ∀ v : PI.Env, getV v 0 = some (.int k) → v.set 0 (some (.int k)) = v → evE (C16 n) (.bin .FloorDiv (.var 0) (.int 2)) v = .ok (.int (k.fdiv 2)) v := fun v h1 h2 => ev_bin (ev_var h1 rfl h2) ev_int (binD_div (by decide) (by decide))
  by_cases h : k.fmod 2 = 0
  · rw [decide_eq_true h] at t
    obtain ⟨x, hx, e⟩ := ix_str (z := "0123456789-/") (i := (k.fdiv 2).fmod 12) (by decide +kernel) (Int.fmod_nonneg_of_pos _ (by decide)) (by rw [show ("0123456789-/" : Str).length = 12 by decide +kernel]; exact Int.fmod_lt_of_pos _ (by decide)) (by decide +kernel)
    refine ⟨x, [some (.int k)], hx, ?_⟩
    have e1 : evE (C16 n) (.idx (.str "0123456789-/") (.bin .Mod (.bin .FloorDiv (.var 0) (.int 2)) (.int 12))) v = .ok (.str x) v := by
      have i1 := ev_bin (op := .Mod) (dv v rfl rfl) (ev_int (i := 12)) (binD_mod (by decide))
      have s1 : evE (C16 n) (.str "0123456789-/") v = .ok (.str "0123456789-/") v := ev_str
      rw [evE, s1, R.bind_ok, i1, R.bind_ok, e, R.of_some]
    show endC 1 (exSs (C16 n) b__law_sign v) = _
    unfold b__law_sign
    rw [seq_ret ((if_t t).trans (seq_ret (ret_is e1)))]
    rfl
  · rw [decide_eq_false h] at t
    let z1 : Str := " !\"#$&'()*+,-./0123456789:;<=>?@ABCDEFGHIJKLMNOPQRSTUVWXYZ[\\]^_"
    let z2 : Str := "`abcdefghijklmnopqrstuvwxyz{|}~\n"
    obtain ⟨x, hx, e⟩ := ix_str (z := z1 ++ z2) (i := (k.fdiv 2).fmod 95) (by decide +kernel) (Int.fmod_nonneg_of_pos _ (by decide)) (by rw [show (z1 ++ z2).length = 95 by decide +kernel]; exact Int.fmod_lt_of_pos _ (by decide)) (by decide +kernel)
    refine ⟨x, [some (.int k)], hx, ?_⟩
    let v1 : PI.Env := [some (.int k), some (.str z1)]
    let v2 : PI.Env := [some (.int k), some (.str (z1 ++ z2))]
    have s1 : exS (C16 n) (.set 1 (.str z1)) v = .nx v1 := set_is (i := 1) ev_str rfl
    have s2 : exS (C16 n) (.set 1 (.bin .Add (.var 1) (.str z2))) v1 = .nx v2 := set_is (i := 1) (ev_bin (ev_var (d := .str z1) rfl rfl rfl) ev_str (binD_addS (by rw [sizeLine_eq]; decide +kernel))) rfl
    have e1 : evE (C16 n) (.ixv 1 (.bin .Mod (.bin .FloorDiv (.var 0) (.int 2)) (.int 95))) v2 = .ok (.str x) v2 :=
      ixv_is (d := .str (z1 ++ z2)) (k := .int ((k.fdiv 2).fmod 95)) rfl (ev_bin (dv v2 rfl rfl) ev_int (binD_mod (by decide))) e rfl
    show endC 1 (exSs (C16 n) b__law_sign v) = _
    unfold b__law_sign
    refine (congrArg (endC 1) ((seq_nx ((if_f t).trans seq_nil)).trans ((seq_nx s1).trans ((seq_nx s2).trans (seq_ret (ret_is e1)))))).trans ?_
    rfl
end PI.KK
namespace PI.KK
open PySem K84
/-! ### _law_pool_word -/
theorem lc_strs {own : List Nat} {step : PI.D → PI.Env → R (Option PI.D)} {v : PI.Env} : ∀ (l : List PI.D) (acc : List Str), acc.length + l.length ≤ 1000 → (∀ z ∈ acc, OkN 1 z) → (∀ d ∈ l, ∃ (x : Str) (v' : PI.Env), OkN 1 x ∧ step d v = .ok (some (.str x)) v' ∧ wipeE v' own = v) →
    ∃ zs : List Str, zs.length ≤ 1000 ∧ (∀ z ∈ zs, OkN 1 z) ∧ lcLoop own step l (acc.map PI.D.str) v = .ok (zs.map PI.D.str) v
  | [], acc, h, ha, _ => ⟨acc, by simpa using h, ha, rfl⟩
  | d :: l, acc, h, ha, hs => by
    obtain ⟨x, v', hx, e, w⟩ := hs d (by simp)
    have hlen : (acc.map PI.D.str).length < sizeLine := by
      rw [List.length_map, sizeLine_eq]
      simp at h
      omega
    obtain ⟨zs, z1, z2, z3⟩ := lc_strs l (acc ++ [x]) (by simp at h ⊢; omega) (by
      intro z hz
      rcases List.mem_append.mp hz with q | q
      · exact ha z q
      · rw [List.mem_singleton.mp q]; exact hx) (fun d hd => hs d (by simp [hd]))
    refine ⟨zs, z1, z2, ?_⟩
    simp only [lcLoop, e, R.noX_ok, R.bind_ok, hlen, if_true, w]
    rw [← z3, List.map_append]
    rfl
def lcStep (C : PI.Ctx) (t : Tg) (cond : Cd) (body : E) : PI.D → PI.Env → R (Option PI.D) := fun d v2 => match asT C.nc t d v2 with
  | some v3 => (evC C.nc cond v3).bind fun c v4 => if c then (evE C.nc body v4).bind fun y v5 => .ok (some y) v5 else .ok none v4
  | none => .err
theorem ev_lc {C : PI.Ctx} {own : List Nat} {body : E} {t : Tg} {src : It'} {cond : Cd} {v v1 v6 : PI.Env} {items l : List PI.D} (hc : C.calm = true) (hi : evI C src v = .ok items v1) (hl : lcLoop own (lcStep C t cond body) items [] (wipeE v1 own) = .ok l v6) :
    evE C (.lc own body t src cond) v = .ok (.lst .own l) (backE v1 v6 own) := by
  simp only [evE, hc, if_true, hi, R.bind_ok]
  show (lcLoop own (lcStep C t cond body) items [] (wipeE v1 own)).bind _ = _
  rw [hl]
  rfl
theorem lcStep_some {C : PI.Ctx} {body : E} {t : Tg} {v v3 v4 : PI.Env} {d y : PI.D} (h1 : asT C.nc t d v = some v3) (h2 : evE C.nc body v3 = .ok y v4) : lcStep C t .none body d v = .ok (some y) v4 := by
  simp only [lcStep, h1, evC, R.bind_ok, if_true, h2]
theorem join_okN : ∀ (zs : List Str), (∀ z ∈ zs, OkN 1 z) → OkN zs.length (Str.join "" zs)
  | [], _ => ⟨by decide +kernel, by decide +kernel⟩
  | [z], h => h z (by simp)
  | z :: y :: r, h => by
    have ih := join_okN (y :: r) fun w hw => h w (by simp at hw ⊢; exact .inr hw)
    have e : Str.join "" (z :: y :: r) = z ++ "" ++ Str.join "" (y :: r) := rfl
    have h1 := ((h z (by simp)).append (n := 0) (y := "") ⟨by decide +kernel, by decide +kernel⟩).append ih
    rw [e]
    exact h1.mono (by simp; omega)
theorem sum_ones : ∀ (zs : List Str), (∀ z ∈ zs, OkN 1 z) → (zs.map (·.length)).sum ≤ zs.length
  | [], _ => by simp
  | z :: r, h => by
    have := (h z (by simp)).len
    have := sum_ones r fun w hw => h w (by simp [hw])
    simp
    omega
theorem strsOf_map : ∀ zs : List Str, strsOf (zs.map PI.D.str) = some zs
  | [] => rfl
  | z :: r => by simp only [List.map_cons, strsOf, strsOf_map r, Option.map_some]
abbrev C18 (n : Nat) : PI.Ctx := pg.ctx (pg.call (n + 1)) true d__law_pool_word
theorem call_pool {c : Int} (n : Nat) : ∃ (x : Str) (o : PI.Env), Ok x ∧ pg.call (n + 2) true 18 [.int c] = .ret (.str x) o := by
  rw [call_eq (n := n + 1) (d := d__law_pool_word) rfl rfl]
  obtain ⟨ds, o, hl, hb, hc⟩ := call_digits c (12 :: List.replicate 11 27) (by decide) (by decide) n
  obtain ⟨d0, es, rfl⟩ : ∃ d0 es, ds = d0 :: es := by
    cases ds with
    | nil => simp at hl
    | cons a b => exact ⟨a, b, rfl⟩
  have hes : es.length = 11 := by simpa using hl
  have b0 : d0 < 12 := below_get hb 0 rfl rfl
  have be : ∀ (i d : Nat), es[i]? = some d → d < 27 := by
    intro i d h
    obtain ⟨m, e, l⟩ := hb (i + 1) d (by simpa using h)
    have e : (List.replicate 11 27)[i]? = some m := by simpa using e
    have := List.mem_of_getElem? e
    rw [List.mem_replicate] at this
    omega
  let v0 : PI.Env := [some (.int c), none, none]
  let L : PI.D := .lst .frz (nats (d0 :: es))
  let v1 : PI.Env := [some (.int c), some L, none]
  have sz : evE (C18 n) (.bin .Add (.lst (.cons (.int 12) .nil)) (.bin .Mult (.lst (.cons (.int 27) .nil)) (.int 11))) v0 = .ok (.lst .own (nats (12 :: List.replicate 11 27))) v0 := by
    refine ev_bin (x := .lst .own (nats [12])) (y := .lst .own (nats (List.replicate 11 27))) (ev_lst (l := nats [12]) (evA_cons ev_int evA_nil) (by rw [sizeLine_eq]; decide)) (ev_bin (ev_lst (l := [.int ((27 : Nat) : Int)]) (evA_cons ev_int evA_nil) (by rw [sizeLine_eq]; decide)) (ev_int (i := ((11 : Nat) : Int))) (mul_lst (by decide))) ?_
    have h2 : (D.frozenL (nats [12]) && D.frozenL (nats (List.replicate 11 27)) && decide ((nats [12]).length + (nats (List.replicate 11 27)).length ≤ sizeLine)) = true := by
      rw [frzn_nats, frzn_nats, sizeLine_eq]
      decide
    show (if (D.frozenL (nats [12]) && D.frozenL (nats (List.replicate 11 27)) && decide ((nats [12]).length + (nats (List.replicate 11 27)).length ≤ sizeLine)) = true then some (PI.D.lst .own (nats [12] ++ nats (List.replicate 11 27))) else none) = _
    rw [if_pos h2]
    simp [nats]
  have s1 : exS (C18 n) (.set 1 (.call 7 (.cons (.var 0) (.cons (.bin .Add (.lst (.cons (.int 12) .nil)) (.bin .Mult (.lst (.cons (.int 27) .nil)) (.int 11))) .nil)))) v0 = .nx v1 :=
    set_is (i := 1) (call_vp (l := [.int c, .lst .own (nats (12 :: List.replicate 11 27))]) (evA_cons (ev_var rfl rfl rfl) (evA_cons sz evA_nil)) hc) rfl
  have g0 : evE (C18 n) (.ixv 1 (.int 0)) v1 = .ok (.int (d0 : Int)) v1 := ixv_is (d := L) (k := .int ((0 : Nat) : Int)) rfl ev_int (L2.atI_nat (xs := nats (d0 :: es)) (j := 0) (v := .int (d0 : Int)) (by simp [nats])) rfl
  have hr := rngD_nat (k := d0) (by omega)
  have src : evI (C18 n) (.rng (.cons (.ixv 1 (.int 0)) .nil)) v1 = .ok ((List.range d0).map fun (k : Nat) => PI.D.int k) v1 := by
    exact evI_rng1 g0 hr
  let P : Str := "01234567890123456789-//+ a."
  obtain ⟨zs, z1, z2, z3⟩ := lc_strs (own := [2]) (step := lcStep (C18 n) (.nm 2) .none (.idx (.str P) (.ixv 1 (.bin .Add (.int 1) (.var 2))))) (v := v1) ((List.range d0).map fun (k : Nat) => PI.D.int k) [] (by simp; omega) (by simp) (by
    intro d hd
    obtain ⟨k, hk, rfl⟩ := List.mem_map.mp hd
    have hk : k < d0 := List.mem_range.mp hk
    have hkl : k < es.length := by omega
    have bk := be k es[k] (List.getElem?_eq_getElem hkl)
    obtain ⟨x, hx, e⟩ := ix_str (z := P) (i := (es[k] : Int)) (by decide +kernel) (by omega) (by rw [show P.length = 27 by decide +kernel]; omega) (by decide +kernel)
    let v3 : PI.Env := [some (.int c), some L, some (.int k)]
    have a1 : asT (C18 n).nc (.nm 2) (.int k) v1 = some v3 := rfl
    have hat : L2.atI (nats (d0 :: es)) (1 + (k : Int)) = some (.int (es[k] : Int)) := by
      have : (1 + (k : Int)) = ((k + 1 : Nat) : Int) := by omega
      rw [this]
      exact L2.atI_nat (by rw [List.getElem?_map, List.getElem?_cons_succ, List.getElem?_eq_getElem hkl]; rfl)
    have i1 : evE (C18 n).nc (.ixv 1 (.bin .Add (.int 1) (.var 2))) v3 = .ok (.int (es[k] : Int)) v3 := ixv_is (d := L) rfl (ev_bin ev_int (ev_var rfl rfl rfl) (binD_addI _ _)) hat rfl
    have i2 : evE (C18 n).nc (.idx (.str P) (.ixv 1 (.bin .Add (.int 1) (.var 2)))) v3 = .ok (.str x) v3 := by
      rw [evE, show evE (C18 n).nc (.str P) v3 = .ok (.str P) v3 from ev_str, R.bind_ok, i1, R.bind_ok, e, R.of_some]
    exact ⟨x, v3, hx, lcStep_some a1 i2, rfl⟩)
  have lc : evE (C18 n) (.lc [2] (.idx (.str P) (.ixv 1 (.bin .Add (.int 1) (.var 2)))) (.nm 2) (.rng (.cons (.ixv 1 (.int 0)) .nil)) .none) v1 = .ok (.lst .own (zs.map PI.D.str)) v1 := ev_lc rfl src z3
  have jn : evE (C18 n) (.bm .join (.str "") (.cons (.lc [2] (.idx (.str P) (.ixv 1 (.bin .Add (.int 1) (.var 2)))) (.nm 2) (.rng (.cons (.ixv 1 (.int 0)) .nil)) .none) .nil)) v1 = .ok (.str (Txt.join "" zs)) v1 := by
    have e0 : evE (C18 n) (.str "") v1 = .ok (.str "") v1 := ev_str
    have sz := sum_ones zs z2
    have e1 : ("" : Str).length = 0 := by decide +kernel
    have hb : bmF .join (.str "") [.lst .own (zs.map PI.D.str)] = some (.str (Txt.join "" zs)) := by
      simp only [bmF, strsOf_map, Option.bind_some]
      rw [if_pos (by rw [e1]; omega)]
    rw [evE, e0, R.bind_ok]
    simp only [toS, R.of_some, R.bind_ok, evA_cons lc evA_nil, arAll, Option.map_some, hb]
  have okj : OkN zs.length (Txt.join "" zs) := by
    have e : Txt.join "" zs = Str.join "" zs := by first | rfl | exact StrLaws.glued_eq_join _ _
    rw [e]
    exact join_okN zs z2
  refine ⟨_, [some (.int c)], okj.ok (by omega), ?_⟩
  show endC 1 (exSs (C18 n) b__law_pool_word v0) = _
  unfold b__law_pool_word
  rw [seq_nx s1]
  refine (congrArg (endC 1) (seq_ret (ret_is jn))).trans ?_
  rfl
end PI.KK
namespace PI.KK
open PySem K84
/-! ### words put together -/
theorem fold_mem {x : Array Nat} {c : Nat} : ∀ (k : Nat) (acc : Array Nat), c ∈ ((List.replicate k x).foldl (· ++ ·) acc).toList → c ∈ acc.toList ∨ c ∈ x.toList
  | 0, acc, h => .inl (by simpa using h)
  | k + 1, acc, h => by
    rw [List.replicate_succ, List.foldl_cons] at h
    rcases fold_mem k _ h with q | q
    · simpa using q
    · exact .inr q
theorem OkN.mul {n : Nat} {x : Str} (h : OkN n x) {j : Int} {N : Nat} (hj : j ≤ (N : Int)) (hn : 1 ≤ N) : OkN (n * N) (Txt.mul x j) := by
  refine ⟨PyProof.Rows.len_mul_leN h.len hj, fun c hc => ?_⟩
  unfold Txt.mul at hc
  split at hc
  · simp [Str.empty] at hc
  · split at hc
    · exact h.low c hc
    · rcases fold_mem _ _ hc with q | q
      · simp at q
      · exact h.low c q
theorem join_mem {z : Str} {c : Nat} : ∀ (l : List Str), c ∈ (Str.join z l).cps.toList → c ∈ z.cps.toList ∨ ∃ p ∈ l, c ∈ p.cps.toList
  | [], h => by simp [Str.join, Str.empty] at h
  | [p], h => .inr ⟨p, by simp, h⟩
  | p :: q :: r, h => by
    have e : Str.join z (p :: q :: r) = p ++ z ++ Str.join z (q :: r) := rfl
    rw [e, Str.cps_append, Str.cps_append, Array.toList_append, Array.toList_append, List.mem_append, List.mem_append] at h
    rcases h with (h | h) | h
    · exact .inr ⟨p, by simp, h⟩
    · exact .inl h
    · rcases join_mem (q :: r) h with g | ⟨t, g1, g2⟩
      · exact .inl g
      · exact .inr ⟨t, by simp at g1 ⊢; exact .inr g1, g2⟩
theorem sub_mem {x : Str} {i j c : Nat} (h : c ∈ (Builtin.Str.strSub x i j).cps.toList) : c ∈ x.cps.toList := by
  rw [StrLaws.strSub_toList] at h
  exact List.mem_of_mem_drop (List.mem_of_mem_take h)
theorem OkN.replace {n : Nat} {x y z : Str} (h : OkN n x) (hz : OkN 2 z) : OkN (n + (n + 1) * 2) (Txt.replace x y z) := by
  unfold Txt.replace
  split
  · exact h.mono (by omega)
  · refine ⟨?_, fun c hc => ?_⟩
    · have h1 := StrLaws.occ_length_le x y 0 x.length (x.length + 1)
      have hy : (Builtin.Str.glued y (Builtin.Str.partsBetween x (Builtin.Str.occurrences x y 0 x.length (x.length + 1)) y.length)).length = x.length := by rw [StrLaws.glued_between_self]
      rw [size_glued, length_partsBetween, Nat.add_sub_cancel] at hy
      rw [size_glued, length_partsBetween, Nat.add_sub_cancel]
      have h2 : (Builtin.Str.occurrences x y 0 x.length (x.length + 1)).length * z.length ≤ (n + 1) * 2 := Nat.mul_le_mul (Nat.le_trans h1 (Nat.succ_le_succ h.len)) hz.len
      have := h.len
      omega
    · rw [StrLaws.glued_eq_join] at hc
      rcases join_mem _ hc with q | ⟨p, hp, q⟩
      · exact hz.low c q
      · unfold Builtin.Str.partsBetween at hp
        obtain ⟨⟨i, j⟩, _, rfl⟩ := List.mem_map.mp hp
        exact h.low c (sub_mem q)
/-! ### expressions that tell a word -/
def EW (C : PI.Ctx) (v : PI.Env) (e : E) (n : Nat) : Prop := ∃ x, OkN n x ∧ evE C e v = .ok (.str x) v
section
variable {C : PI.Ctx} {v : PI.Env} {e a b : E} {m n : Nat}
theorem EW.var {i : Nat} {x : Str} (h : OkN n x) (h1 : getV v i = some (.str x)) (h2 : v.set i (some (.str x)) = v) : EW C v (.var i) n := ⟨x, h, ev_var h1 rfl h2⟩
theorem EW.str {x : Str} (h : OkN n x) : EW C v (.str x) n := ⟨x, h, ev_str⟩
theorem EW.add (ha : EW C v a m) (hb : EW C v b n) (hs : m + n ≤ 200000) : EW C v (.bin .Add a b) (m + n) := by
  obtain ⟨x, hx, ex⟩ := ha
  obtain ⟨y, hy, ey⟩ := hb
  have := hx.len
  have := hy.len
  exact ⟨x ++ y, hx.append hy, ev_bin ex ey (binD_addS (size_ok (by omega)))⟩
theorem EW.mono (h : EW C v e m) (hn : m ≤ n) : EW C v e n := by
  obtain ⟨x, hx, ex⟩ := h
  exact ⟨x, hx.mono hn, ex⟩
/-- words in a row -/
def EWs (C : PI.Ctx) (v : PI.Env) (es : Es) (k B : Nat) : Prop := ∃ zs : List Str, zs.length = k ∧ (∀ z ∈ zs, OkN B z) ∧ evA C es v = .ok ((zs.map PI.D.str).map Ar.d) v
theorem EWs.nil {B : Nat} : EWs C v .nil 0 B := ⟨[], rfl, by simp, evA_nil⟩
theorem EWs.cons {es : Es} {k B : Nat} (h : EW C v e n) (hn : n ≤ B) (hs : EWs C v es k B) : EWs C v (.cons e es) (k + 1) B := by
  obtain ⟨x, hx, ex⟩ := h
  obtain ⟨zs, h1, h2, h3⟩ := hs
  refine ⟨x :: zs, by simp [h1], fun z hz => ?_, evA_cons ex h3⟩
  rcases List.mem_cons.mp hz with rfl | q
  · exact hx.mono hn
  · exact h2 z q
theorem EW.idx {es : Es} {k B : Nat} {i : Int} (hs : EWs C v es k B) (hi : evE C e v = .ok (.int i) v) (h0 : 0 ≤ i) (h1 : i < k) (hk : k ≤ 1000) : EW C v (.idx (.lst es) e) B := by
  obtain ⟨zs, q1, q2, q3⟩ := hs
  obtain ⟨j, rfl⟩ := Int.eq_ofNat_of_zero_le h0
  have hj : j < zs.length := by omega
  refine ⟨zs[j], q2 _ (List.getElem_mem hj), ?_⟩
  have hl : evE C (.lst es) v = .ok (.lst .own (zs.map PI.D.str)) v := ev_lst q3 (size_ok (by rw [List.length_map]; omega))
  have hx : PI.ixD (.lst .own (zs.map PI.D.str)) (.int (j : Int)) = some (.str zs[j]) := L2.atI_nat (by rw [List.getElem?_map, List.getElem?_eq_getElem hj]; rfl)
  rw [evE, hl, R.bind_ok, hi, R.bind_ok, hx, R.of_some]
theorem frzl_strs : ∀ zs : List Str, PI.D.freezeL (zs.map PI.D.str) = zs.map PI.D.str
  | [] => rfl
  | z :: r => by simp [PI.D.freezeL, PI.D.freeze, frzl_strs r]
theorem frzn_strs : ∀ zs : List Str, PI.D.frozenL (zs.map PI.D.str) = true
  | [] => rfl
  | z :: r => by simp [PI.D.frozenL, PI.D.frozen, frzn_strs r]
theorem cat_strs {o o' : Ow} (ho : o ≠ .wr) (ho' : o' ≠ .wr) {xs ys : List Str} (h : xs.length + ys.length ≤ 1000) : binD .Add (.lst o (xs.map PI.D.str)) (.lst o' (ys.map PI.D.str)) = some (.lst .own ((xs ++ ys).map PI.D.str)) := by
  have hs : (xs.map PI.D.str).length + (ys.map PI.D.str).length ≤ sizeLine := size_ok (by rw [List.length_map, List.length_map]; omega)
  cases o <;> cases o' <;> first | exact absurd rfl ho | exact absurd rfl ho' | simp only [binD, frzn_strs, Bool.true_and, decide_eq_true hs, if_true, List.map_append]
/-- more words -/
theorem words_more {ws : List Str} {e : E} {i k : Nat} (hv : getV v i = some (.lst .own (ws.map PI.D.str))) (hp : C.pr i = false) (hw : ∀ z ∈ ws, OkN 20000 z)
    (h : ∃ zs : List Str, zs.length = k ∧ (∀ z ∈ zs, OkN 20000 z) ∧ evE C e (v.set i (some (.lst .frz (ws.map PI.D.str)))) = .ok (.lst .own (zs.map PI.D.str)) (v.set i (some (.lst .frz (ws.map PI.D.str))))) (hl : ws.length + k ≤ 500) :
    ∃ zs : List Str, zs.length = ws.length + k ∧ (∀ z ∈ zs, OkN 20000 z) ∧ exS C (.set i (.bin .Add (.var i) e)) v = .nx (v.set i (some (.lst .own (zs.map PI.D.str)))) := by
  obtain ⟨zs, q1, q2, q3⟩ := h
  refine ⟨ws ++ zs, by simp [q1], fun z hz => (List.mem_append.mp hz).elim (hw z) (q2 z), ?_⟩
  have g : evE C (.var i) v = .ok (.lst .frz (ws.map PI.D.str)) (v.set i (some (.lst .frz (ws.map PI.D.str)))) := by
    simp only [evE, rdV, hv, PI.D.freeze, PI.D.fz, frzl_strs]
  have := set_is (C := C) (i := i) (ev_bin (op := .Add) g q3 (cat_strs (by decide) (by decide) (by omega))) hp
  rw [this, List.set_set]
theorem EWs.lst {es : Es} {k : Nat} (hs : EWs C v es k 20000) (hk : k ≤ 500) : ∃ zs : List Str, zs.length = k ∧ (∀ z ∈ zs, OkN 20000 z) ∧ evE C (.lst es) v = .ok (.lst .own (zs.map PI.D.str)) v := by
  obtain ⟨zs, q1, q2, q3⟩ := hs
  exact ⟨zs, q1, q2, ev_lst q3 (size_ok (by rw [List.length_map]; omega))⟩
theorem EWs.lstT {e o : E} {es : Es} {k : Nat} {y z : Str} (he : EW C v e 20000) (hs : EWs C v es k 20000) (ho : EW C v o n) (hn : n ≤ 2000) (hz : OkN 2 z) (hk : k ≤ 400) : ∃ zs : List Str, zs.length = k + 2 ∧ (∀ z ∈ zs, OkN 20000 z) ∧ evE C (.lstT e es o y z) v = .ok (.lst .own (zs.map PI.D.str)) v := by
  obtain ⟨x, hx, ex⟩ := he
  obtain ⟨zs, q1, q2, q3⟩ := hs
  obtain ⟨w, hw, ew⟩ := ho
  have hr := (hw.replace (y := y) hz).mono (n := 20000) (by omega)
  have hrep : replD y z (.str w) = some (.str (Txt.replace w y z)) := by
    have : w.length + (w.length + 1) * z.length ≤ 16777216 := by
      have h1 := hw.len
      have h2 : (w.length + 1) * z.length ≤ (n + 1) * 2 := Nat.mul_le_mul (Nat.succ_le_succ h1) hz.len
      omega
    simp only [replD, if_pos this]
  have hl : (zs.map PI.D.str).length + 2 ≤ sizeLine := size_ok (by rw [List.length_map]; omega)
  refine ⟨x :: zs ++ [Txt.replace w y z], by simp [q1], fun t ht => ?_, ?_⟩
  · simp only [List.cons_append, List.mem_cons, List.mem_append, List.not_mem_nil, or_false] at ht
    rcases ht with rfl | ht | rfl
    · exact hx
    · exact q2 t ht
    · exact hr
  · rw [evE]
    simp only [ex, R.bind_ok, q3, arAll_map, R.of_some, ew, hrep, if_pos hl, List.map_append, List.map_cons, List.map_nil, List.cons_append]
end
end PI.KK
namespace PI.KK
open PySem K84
theorem int_okK {i : Int} (k : Nat) (hk : 1 ≤ k) (hk2 : k ≤ 900) (h : i.natAbs < 10 ^ k) : OkN (k + 1) (Str.ofString (toString i)) := by
  refine ⟨?_, (int_okN (Nat.lt_of_lt_of_le h (Nat.pow_le_pow_right (by decide) hk2))).low⟩
  rw [ofString_length]
  exact int_text_length_le10 hk h
section
variable {C : PI.Ctx} {v : PI.Env} {e a b : E} {m n : Nat}
theorem EW.toStr {i : Int} (k : Nat) (hk : 1 ≤ k) (hk2 : k ≤ 900) (h : i.natAbs < 10 ^ k) (he : evE C e v = .ok (.int i) v) : EW C v (.bi .str (.cons e .nil)) (k + 1) :=
  ⟨_, int_okK k hk hk2 h, str_int he (Nat.lt_of_lt_of_le h (Nat.pow_le_pow_right (by decide) hk2))⟩
theorem EW.cutHi {i : Int} (h : EW C v a n) (hn : n ≤ 100000) (he : evE C e v = .ok (.int i) v) : EW C v (.slc a .none (.some e)) n := by
  obtain ⟨x, hx, ex⟩ := h
  have hs := size_ok (n := x.length) (Nat.le_trans hx.len (by omega))
  exact ⟨L2.cutS x none (some i), hx.cut _ _, by simp only [evE, evO, ex, he, R.bind_ok, toI, Option.map_some, R.of_some, slcD, if_pos hs]⟩
theorem EW.cutLo {i : Int} (h : EW C v a n) (hn : n ≤ 100000) (he : evE C e v = .ok (.int i) v) : EW C v (.slc a (.some e) .none) n := by
  obtain ⟨x, hx, ex⟩ := h
  have hs := size_ok (n := x.length) (Nat.le_trans hx.len (by omega))
  exact ⟨L2.cutS x (some i) none, hx.cut _ _, by simp only [evE, evO, ex, he, R.bind_ok, toI, Option.map_some, R.of_some, slcD, if_pos hs]⟩
theorem binD_mulS {x : Str} {j : Int} (h : x.length * j.toNat ≤ sizeLine ∧ -(2 ^ 62) ≤ j ∧ j < 2 ^ 62) : binD .Mult (.str x) (.int j) = some (.str (Txt.mul x j)) := by simp only [binD, if_pos h]
theorem EW.mul {j : Int} {N : Nat} (h : EW C v a n) (he : evE C b v = .ok (.int j) v) (h0 : 0 ≤ j) (hj : j ≤ (N : Int)) (hN : 1 ≤ N) (hl : n * N ≤ 100000) (hN2 : N ≤ 100000) : EW C v (.bin .Mult a b) (n * N) := by
  obtain ⟨x, hx, ex⟩ := h
  refine ⟨_, hx.mul hj hN, ev_bin ex he (binD_mulS ⟨?_, by omega, by omega⟩)⟩
  have h1 : x.length * j.toNat ≤ n * N := Nat.mul_le_mul hx.len (by omega)
  exact size_ok (by omega)
end
theorem okS {n : Nat} {w : Str} (h : (decide (w.length ≤ n) && w.cps.toList.all fun c => decide (c < 256)) = true) : OkN n w := by
  simp only [Bool.and_eq_true, decide_eq_true_eq, List.all_eq_true] at h
  exact ⟨h.1, h.2⟩
abbrev C17 (n : Nat) : PI.Ctx := pg.ctx (pg.call (n + 2)) true d__law_changed
theorem call_changed {a b : Int} (h : FR a b) {d0 d1 d2 d3 d4 d5 : Nat} (h0 : d0 < 28) (h1 : d1 < 48) (h2 : d2 < 9) (h3 : d3 < 10) (n : Nat) :
    ∃ (x : Str) (o : PI.Env), Ok x ∧ pg.call (n + 3) true 17 [.tup [.int a, .int b], .lst .frz (nats [d0, d1, d2, d3, d4, d5])] = .ret (.str x) o := by
  rw [call_eq (n := n + 2) (d := d__law_changed) rfl rfl]
  let V : PI.D := .tup [.int a, .int b]
  let L : PI.D := .lst .frz (nats [d0, d1, d2, d3, d4, d5])
  have ta := Nat.lt_trans h.top p89
  have tb := Nat.lt_trans h.bot p89
  have ix : ∀ (k d : Nat) (kI : Int) (v : PI.Env), (k : Int) = kI → getV v 1 = some L → ([d0, d1, d2, d3, d4, d5] : List Nat)[k]? = some d → evE (C17 n) (.ixv 1 (.int kI)) v = .ok (.int (d : Int)) v := fun k d kI v hk g e => by
    subst hk
    exact ixv_is (k := .int (k : Int)) g ev_int (L2.atI_nat (by rw [List.getElem?_map, e]; rfl)) rfl
  have gv : ∀ v : PI.Env, getV v 0 = some V → evE (C17 n) (.ixv 0 (.int 0)) v = .ok (.int a) v ∧ evE (C17 n) (.ixv 0 (.int 1)) v = .ok (.int b) v := fun v g => get2 (o := .own) rfl rfl (.inl g)
  have md : ∀ (v : PI.Env) (e : E) (x m : Int), evE (C17 n) e v = .ok (.int x) v → m ≠ 0 → evE (C17 n) (.bin .Mod e (.int m)) v = .ok (.int (x.fmod m)) v := fun v e x m h1 h2 => ev_bin h1 ev_int (binD_mod h2)
  -- 2, 3: the numbers' words
  let tw : Str := Str.ofString (toString a)
  let bw : Str := Str.ofString (toString b)
  have okt := int_okN ta
  have okb := int_okN tb
  let v0 : PI.Env := [some V, some L, none, none, none, none, none, none, none, none, none, none]
  let v1 : PI.Env := [some V, some L, some (.str tw), none, none, none, none, none, none, none, none, none]
  let v2 : PI.Env := [some V, some L, some (.str tw), some (.str bw), none, none, none, none, none, none, none, none]
  have s2 : exS (C17 n) (.set 2 (.bi .str (.cons (.ixv 0 (.int 0)) .nil))) v0 = .nx v1 := set_is (i := 2) (str_int (gv v0 rfl).1 ta) rfl
  have s3 : exS (C17 n) (.set 3 (.bi .str (.cons (.ixv 0 (.int 1)) .nil))) v1 = .nx v2 := set_is (i := 3) (str_int (gv v1 rfl).2 tb) rfl
  -- 4: the word
  obtain ⟨o4, c4⟩ := call_written h n
  obtain ⟨w, hw⟩ : ∃ w, w = wr a b := ⟨_, rfl⟩
  have okw : OkN 1803 w := by rw [hw]; exact wr_okN h
  rw [← hw] at c4
  let v4 : PI.Env := [some V, some L, some (.str tw), some (.str bw), some (.str w), none, none, none, none, none, none, none]
  have s4 : exS (C17 n) (.set 4 (.call 13 (.cons (.var 0) .nil))) v2 = .nx v4 := set_is (i := 4) (call_vp (f := 13) (l := [V]) (evA_cons (ev_var rfl frz_pair rfl) evA_nil) c4) rfl
  -- 5: the factor
  let F : Int := 2 + (d1 : Int).fmod 8
  have F0 : 0 ≤ (d1 : Int).fmod 8 := Int.fmod_nonneg_of_pos _ (by decide)
  have F1 : (d1 : Int).fmod 8 < 8 := Int.fmod_lt_of_pos _ (by decide)
  have F2 : 2 ≤ F := by show 2 ≤ 2 + (d1 : Int).fmod 8; omega
  have F3 : F ≤ 9 := by show 2 + (d1 : Int).fmod 8 ≤ 9; omega
  let v5 : PI.Env := [some V, some L, some (.str tw), some (.str bw), some (.str w), some (.int F), none, none, none, none, none, none]
  have s5 : exS (C17 n) (.set 5 (.bin .Add (.int 2) (.bin .Mod (.ixv 1 (.int 1)) (.int 8)))) v4 = .nx v5 := set_is (i := 5) (ev_bin ev_int (md v4 _ _ _ (ix 1 d1 1 v4 rfl rfl rfl) (by decide)) (binD_addI _ _)) rfl
  -- 6: the place
  obtain ⟨Pl, s6⟩ : ∃ Pl : Int, exS (C17 n) (.set 6 (.bin .Mod (.ixv 1 (.int 4)) (.bin .Add (.biv .len 4) (.int 1)))) v5 = .nx [some V, some L, some (.str tw), some (.str bw), some (.str w), some (.int F), some (.int Pl), none, none, none, none, none] := by
    have hl : evE (C17 n) (.biv .len 4) v5 = .ok (.int (w.length : Int)) v5 := ev_biv (x := .str w) rfl rfl (by
      have := size_ok (n := w.length) (Nat.le_trans okw.len (by decide))
      simp only [biF, if_pos this])
    have hne : (w.length : Int) + 1 ≠ 0 := by omega
    exact ⟨(d4 : Int).fmod ((w.length : Int) + 1), set_is (i := 6) (ev_bin (ix 4 d4 4 v5 rfl rfl rfl) (ev_bin hl ev_int (binD_addI _ _)) (binD_mod hne)) rfl⟩
  let v6 : PI.Env := [some V, some L, some (.str tw), some (.str bw), some (.str w), some (.int F), some (.int Pl), none, none, none, none, none]
  -- 7: the sign
  obtain ⟨sg, o7, oks, c7⟩ := call_sign (k := (d5 : Int)) (n + 1)
  let v7 : PI.Env := [some V, some L, some (.str tw), some (.str bw), some (.str w), some (.int F), some (.int Pl), some (.str sg), none, none, none, none]
  have s7 : exS (C17 n) (.set 7 (.call 16 (.cons (.ixv 1 (.int 5)) .nil))) v6 = .nx v7 := set_is (i := 7) (call_vp (f := 16) (l := [.int (d5 : Int)]) (evA_cons (ix 5 d5 5 v6 rfl rfl rfl) evA_nil) c7) rfl
  -- 8: the great number
  obtain ⟨gw, okg, e8⟩ : EW (C17 n) v7 (.bin .Add (.bin .Add (.bi .str (.cons (.bin .Add (.int 1) (.ixv 1 (.int 2))) .nil)) (.bin .Mult (.bi .str (.cons (.ixv 1 (.int 3)) .nil)) (.bin .Add (.int 796) (.bin .Mod (.ixv 1 (.int 1)) (.int 6))))) (.slc (.bi .str (.cons (.bin .Add (.bin .FloorDiv (.ixv 1 (.int 1)) (.int 6)) (.int 2)) .nil)) (.some (.neg (.int 1))) .none)) (3 + 2 * 801 + 4) := by
    have g6 : 0 ≤ (d1 : Int).fmod 6 := Int.fmod_nonneg_of_pos _ (by decide)
    have g7 : (d1 : Int).fmod 6 < 6 := Int.fmod_lt_of_pos _ (by decide)
    have q1 : EW (C17 n) v7 (.bi .str (.cons (.bin .Add (.int 1) (.ixv 1 (.int 2))) .nil)) 3 := EW.toStr 2 (by decide) (by decide) (i := 1 + (d2 : Int)) (by omega) (ev_bin ev_int (ix 2 d2 2 v7 rfl rfl rfl) (binD_addI _ _))
    have q2 : EW (C17 n) v7 (.bi .str (.cons (.ixv 1 (.int 3)) .nil)) 2 := EW.toStr 1 (by decide) (by decide) (i := (d3 : Int)) (by omega) (ix 3 d3 3 v7 rfl rfl rfl)
    have q3 : evE (C17 n) (.bin .Add (.int 796) (.bin .Mod (.ixv 1 (.int 1)) (.int 6))) v7 = .ok (.int (796 + (d1 : Int).fmod 6)) v7 := ev_bin ev_int (md v7 _ _ _ (ix 1 d1 1 v7 rfl rfl rfl) (by decide)) (binD_addI _ _)
    have q4 := EW.mul (N := 801) q2 q3 (by omega) (by omega) (by decide) (by decide) (by decide)
    have fd : (d1 : Int).fdiv 6 = (d1 : Int) / 6 := Int.fdiv_eq_ediv_of_nonneg _ (by decide)
    have q5 : evE (C17 n) (.bin .Add (.bin .FloorDiv (.ixv 1 (.int 1)) (.int 6)) (.int 2)) v7 = .ok (.int ((d1 : Int).fdiv 6 + 2)) v7 := ev_bin (ev_bin (ix 1 d1 1 v7 rfl rfl rfl) ev_int (binD_div (by decide) (by decide))) ev_int (binD_addI _ _)
    have q6 : EW (C17 n) v7 (.bi .str (.cons (.bin .Add (.bin .FloorDiv (.ixv 1 (.int 1)) (.int 6)) (.int 2)) .nil)) 4 := EW.toStr 3 (by decide) (by decide) (i := (d1 : Int).fdiv 6 + 2) (by rw [fd]; omega) q5
    have q7 : evE (C17 n) (.neg (.int 1)) v7 = .ok (.int (-1)) v7 := by simp [evE, toI]
    exact (q1.add q4 (by decide)).add (q6.cutLo (by decide) q7) (by decide)
  have okg := okg.mono (n := 1700) (by decide)
  let v8 : PI.Env := [some V, some L, some (.str tw), some (.str bw), some (.str w), some (.int F), some (.int Pl), some (.str sg), some (.str gw), none, none, none]
  have s8 : exS (C17 n) _ v7 = .nx v8 := set_is (i := 8) e8 rfl
  -- 9, 10
  obtain ⟨od, oko, e9⟩ : EW (C17 n) v8 (.idx (.lst (.cons (.str "") (.cons (.str "-") (.cons (.str "-0") (.cons (.str "0") (.cons (.str "/") (.cons (.str "00") (.cons (.str "0/1") (.cons (.str "-/2") .nil))))))))) (.bin .Mod (.ixv 1 (.int 1)) (.int 8))) 20000 :=
    EW.idx (EWs.cons (n := 3) (EW.str (okS (by decide +kernel))) (by decide) (EWs.cons (n := 3) (EW.str (okS (by decide +kernel))) (by decide) (EWs.cons (n := 3) (EW.str (okS (by decide +kernel))) (by decide) (EWs.cons (n := 3) (EW.str (okS (by decide +kernel))) (by decide) (EWs.cons (n := 3) (EW.str (okS (by decide +kernel))) (by decide) (EWs.cons (n := 3) (EW.str (okS (by decide +kernel))) (by decide) (EWs.cons (n := 3) (EW.str (okS (by decide +kernel))) (by decide) (EWs.cons (n := 3) (EW.str (okS (by decide +kernel))) (by decide) EWs.nil)))))))) (md v8 _ _ _ (ix 1 d1 1 v8 rfl rfl rfl) (by decide)) F0 F1 (by decide)
  let v9 : PI.Env := [some V, some L, some (.str tw), some (.str bw), some (.str w), some (.int F), some (.int Pl), some (.str sg), some (.str gw), some (.str od), none, none]
  have s9 : exS (C17 n) _ v8 = .nx v9 := set_is (i := 9) e9 rfl
  obtain ⟨bl, okl, e10⟩ : EW (C17 n) v9 (.idx (.lst (.cons (.str " ") (.cons (.str "\n") .nil))) (.bin .Mod (.ixv 1 (.int 1)) (.int 2))) 10 := by
    have g6 : 0 ≤ (d1 : Int).fmod 2 := Int.fmod_nonneg_of_pos _ (by decide)
    have g7 : (d1 : Int).fmod 2 < 2 := Int.fmod_lt_of_pos _ (by decide)
    exact EW.idx (EWs.cons (n := 3) (B := 10) (EW.str (okS (by decide +kernel))) (by decide) (EWs.cons (n := 3) (EW.str (okS (by decide +kernel))) (by decide) EWs.nil)) (md v9 _ _ _ (ix 1 d1 1 v9 rfl rfl rfl) (by decide)) g6 g7 (by decide)
  -- the words
  have okw' : OkN 2000 w := okw.mono (by decide)
  let W (x : PI.D) : PI.Env := [some V, some L, some (.str tw), some (.str bw), some (.str w), some (.int F), some (.int Pl), some (.str sg), some (.str gw), some (.str od), some (.str bl), some x]
  let v10 : PI.Env := [some V, some L, some (.str tw), some (.str bw), some (.str w), some (.int F), some (.int Pl), some (.str sg), some (.str gw), some (.str od), some (.str bl), none]
  have s10 : exS (C17 n) _ v9 = .nx v10 := set_is (i := 10) e10 rfl
  -- the parts, wherever slot 11 stands
  have T : ∀ x : Option PI.D, EW (C17 n) (v10.set 11 x) (.var 2) 901 := fun x => EW.var okt rfl rfl
  have B : ∀ x : Option PI.D, EW (C17 n) (v10.set 11 x) (.var 3) 901 := fun x => EW.var okb rfl rfl
  have Wd : ∀ x : Option PI.D, EW (C17 n) (v10.set 11 x) (.var 4) 1803 := fun x => EW.var okw rfl rfl
  have Sg : ∀ x : Option PI.D, EW (C17 n) (v10.set 11 x) (.var 7) 1 := fun x => EW.var oks rfl rfl
  have Gr : ∀ x : Option PI.D, EW (C17 n) (v10.set 11 x) (.var 8) 1700 := fun x => EW.var okg rfl rfl
  have Od : ∀ x : Option PI.D, EW (C17 n) (v10.set 11 x) (.var 9) 20000 := fun x => EW.var oko rfl rfl
  have Bl : ∀ x : Option PI.D, EW (C17 n) (v10.set 11 x) (.var 10) 10 := fun x => EW.var okl rfl rfl
  have P6 : ∀ x : Option PI.D, evE (C17 n) (.var 6) (v10.set 11 x) = .ok (.int Pl) (v10.set 11 x) := fun x => ev_var rfl rfl rfl
  have P7 : ∀ x : Option PI.D, evE (C17 n) (.bin .Add (.var 6) (.int 1)) (v10.set 11 x) = .ok (.int (Pl + 1)) (v10.set 11 x) := fun x => ev_bin (P6 x) ev_int (binD_addI _ _)
  have lit : ∀ (x : Option PI.D) (z : Str), OkN 3 z → EW (C17 n) (v10.set 11 x) (.str z) 3 := fun x z hz => EW.str hz
  have z0 : v10.set 11 none = v10 := rfl
  -- 11: nine words
  obtain ⟨w1, l1, k1, e11⟩ := EWs.lst (EWs.cons (Wd none) (by decide) (EWs.cons (Od none) (by decide) (EWs.cons ((lit none "0" (okS (by decide +kernel))).add (Wd none) (by decide)) (by decide) (EWs.cons ((lit none "-" (okS (by decide +kernel))).add (Wd none) (by decide)) (by decide) (EWs.cons ((lit none "+" (okS (by decide +kernel))).add (Wd none) (by decide)) (by decide)
    (EWs.cons (((T none).add (lit none "/0" (okS (by decide +kernel))) (by decide)).add (B none) (by decide)) (by decide) (EWs.cons (((T none).add (lit none "/-" (okS (by decide +kernel))) (by decide)).add (B none) (by decide)) (by decide) (EWs.cons ((T none).add (lit none "/1" (okS (by decide +kernel))) (by decide)) (by decide) (EWs.cons ((T none).add (lit none "/0" (okS (by decide +kernel))) (by decide)) (by decide) EWs.nil))))))))) (by decide)
  rw [z0] at e11
  let v11 : PI.Env := v10.set 11 (some (.lst .own (w1.map PI.D.str)))
  have s11 := set_is (C := C17 n) (i := 11) e11 rfl
  -- six more
  have m2 := EWs.lst (EWs.cons ((T (some (.lst .frz (w1.map PI.D.str)))).add (lit _ "/" (okS (by decide +kernel))) (by decide)) (by decide) (EWs.cons ((lit _ "/" (okS (by decide +kernel))).add (B (some (.lst .frz (w1.map PI.D.str)))) (by decide)) (by decide)
    (EWs.cons (((T (some (.lst .frz (w1.map PI.D.str)))).add (lit _ "//" (okS (by decide +kernel))) (by decide)).add (B _) (by decide)) (by decide) (EWs.cons ((lit _ "0/" (okS (by decide +kernel))).add (B (some (.lst .frz (w1.map PI.D.str)))) (by decide)) (by decide) (EWs.cons ((lit _ "-0/" (okS (by decide +kernel))).add (B (some (.lst .frz (w1.map PI.D.str)))) (by decide)) (by decide)
    (EWs.cons (((B (some (.lst .frz (w1.map PI.D.str)))).add (lit _ "/" (okS (by decide +kernel))) (by decide)).add (T _) (by decide)) (by decide) EWs.nil)))))) (by decide)
  obtain ⟨w2, l2, k2, s12⟩ := words_more (C := C17 n) (v := v11) (i := 11) (k := 6) (ws := w1) rfl rfl k1 m2 (by omega)
  let v12 : PI.Env := v10.set 11 (some (.lst .own (w2.map PI.D.str)))
  have s12 : exS (C17 n) _ v11 = .nx v12 := s12
  -- five more
  have m3 := EWs.lstT (y := "/") (z := " /") ((((((T (some (.lst .frz (w2.map PI.D.str)))).add (lit _ "/" (okS (by decide +kernel))) (by decide)).add (B _) (by decide)).add (lit _ "/" (okS (by decide +kernel))) (by decide)).add (B _) (by decide)).mono (by decide))
    (EWs.cons (((T (some (.lst .frz (w2.map PI.D.str)))).add (lit _ "." (okS (by decide +kernel))) (by decide)).add (B _) (by decide)) (by decide) (EWs.cons ((Wd (some (.lst .frz (w2.map PI.D.str)))).add (Bl _) (by decide)) (by decide) (EWs.cons ((Bl (some (.lst .frz (w2.map PI.D.str)))).add (Wd _) (by decide)) (by decide) EWs.nil))) (Wd _) (by decide) (okS (by decide +kernel)) (by decide)
  obtain ⟨w3, l3, k3, s13⟩ := words_more (C := C17 n) (v := v12) (i := 11) (k := 5) (ws := w2) rfl rfl k2 m3 (by omega)
  let v13 : PI.Env := v10.set 11 (some (.lst .own (w3.map PI.D.str)))
  have s13 : exS (C17 n) _ v12 = .nx v13 := s13
  -- four more
  have m4 := EWs.lst (EWs.cons (Gr (some (.lst .frz (w3.map PI.D.str)))) (by decide) (EWs.cons ((lit _ "-" (okS (by decide +kernel))).add (Gr (some (.lst .frz (w3.map PI.D.str)))) (by decide)) (by decide)
    (EWs.cons (((Gr (some (.lst .frz (w3.map PI.D.str)))).add (lit _ "/" (okS (by decide +kernel))) (by decide)).add (B _) (by decide)) (by decide) (EWs.cons (((T (some (.lst .frz (w3.map PI.D.str)))).add (lit _ "/" (okS (by decide +kernel))) (by decide)).add (Gr _) (by decide)) (by decide) EWs.nil)))) (by decide)
  obtain ⟨w4, l4, k4, s14⟩ := words_more (C := C17 n) (v := v13) (i := 11) (k := 4) (ws := w3) rfl rfl k3 m4 (by omega)
  let v14 : PI.Env := v10.set 11 (some (.lst .own (w4.map PI.D.str)))
  have s14 : exS (C17 n) _ v13 = .nx v14 := s14
  -- three more
  let y4 : Option PI.D := some (.lst .frz (w4.map PI.D.str))
  have hd := (Wd y4).cutHi (by decide) (P6 y4)
  have tl := (Wd y4).cutLo (by decide) (P6 y4)
  have tl1 := (Wd y4).cutLo (by decide) (P7 y4)
  have m5 := EWs.lst (EWs.cons ((hd.add (Sg y4) (by decide)).add tl (by decide)) (by decide) (EWs.cons ((hd.add (Sg y4) (by decide)).add tl1 (by decide)) (by decide) (EWs.cons (hd.add tl1 (by decide)) (by decide) EWs.nil))) (by decide)
  obtain ⟨w5, l5, k5, s15⟩ := words_more (C := C17 n) (v := v14) (i := 11) (k := 3) (ws := w4) rfl rfl k4 m5 (by omega)
  let y5 : Option PI.D := some (.lst .own (w5.map PI.D.str))
  let v15 : PI.Env := v10.set 11 y5
  have s15 : exS (C17 n) _ v14 = .nx v15 := s15
  -- the last one
  have F5 : evE (C17 n) (.var 5) v15 = .ok (.int F) v15 := ev_var rfl rfl rfl
  have p801 : ∀ i : Int, i.natAbs < 10 ^ 800 → (i * F).natAbs < 10 ^ 801 := fun i hi => by
    rw [Int.natAbs_mul]
    have e : 10 ^ (800 + 1) = 10 ^ 800 * 10 := Nat.pow_succ 10 800
    have q : i.natAbs * F.natAbs ≤ i.natAbs * 9 := Nat.mul_le_mul_left _ (by omega)
    show _ < 10 ^ (800 + 1)
    rw [e]
    generalize 10 ^ 800 = P at hi
    omega
  have q1 : EW (C17 n) v15 (.bi .str (.cons (.bin .Mult (.ixv 0 (.int 0)) (.var 5)) .nil)) 802 := EW.toStr 801 (by decide) (by decide) (p801 a h.top) (ev_bin (gv v15 rfl).1 F5 (binD_mulR ⟨by omega, by omega⟩))
  have q2 : EW (C17 n) v15 (.bi .str (.cons (.bin .Mult (.ixv 0 (.int 1)) (.var 5)) .nil)) 802 := EW.toStr 801 (by decide) (by decide) (p801 b h.bot) (ev_bin (gv v15 rfl).2 F5 (binD_mulR ⟨by omega, by omega⟩))
  obtain ⟨lw, okL, e16⟩ := (q1.add (lit y5 "/" (okS (by decide +kernel))) (by decide)).add q2 (by decide)
  have l5' : w5.length = 27 := by omega
  have s16 := app_is (C := C17 n) (i := 11) (l := w5.map PI.D.str) (v := v15) rfl e16 (Nat.lt_of_lt_of_le (by rw [List.length_map]; omega) (size_ok (n := 1000) (by decide)))
  let v16 : PI.Env := v10.set 11 (some (.lst .own ((w5 ++ [lw]).map PI.D.str)))
  have hv16 : v15.set 11 (some (.lst .own (w5.map PI.D.str ++ [.str lw]))) = v16 := by
    show v10.set 11 (some (.lst .own (w5.map PI.D.str ++ [.str lw]))) = v10.set 11 (some (.lst .own ((w5 ++ [lw]).map PI.D.str)))
    rw [List.map_append]
    rfl
  rw [hv16] at s16
  have hlen : d0 < (w5 ++ [lw]).length := by rw [List.length_append, l5']; exact h0
  have r0 : evE (C17 n) (.ixv 1 (.int 0)) v16 = .ok (.int (d0 : Int)) v16 := ix 0 d0 0 v16 rfl rfl rfl
  have r1 : evE (C17 n) (.ixv 11 (.ixv 1 (.int 0))) v16 = .ok (.str (w5 ++ [lw])[d0]) v16 :=
    ixv_is (d := .lst .own ((w5 ++ [lw]).map PI.D.str)) rfl r0 (L2.atI_nat (by rw [List.getElem?_map, List.getElem?_eq_getElem hlen]; rfl)) rfl
  have okF : OkN 20000 (w5 ++ [lw])[d0] := by
    have hm := List.getElem_mem hlen
    rcases List.mem_append.mp hm with z | z
    · exact k5 _ z
    · rw [List.mem_singleton.mp z]
      exact okL.mono (by decide)
  refine ⟨_, [some V, some L], okF.ok (by decide), ?_⟩
  show endC 2 (exSs (C17 n) b__law_changed v0) = _
  unfold b__law_changed
  refine (congrArg (endC 2) ((seq_nx s2).trans ((seq_nx s3).trans ((seq_nx s4).trans ((seq_nx s5).trans ((seq_nx s6).trans ((seq_nx s7).trans ((seq_nx s8).trans ((seq_nx s9).trans ((seq_nx s10).trans ((seq_nx s11).trans ((seq_nx s12).trans ((seq_nx s13).trans ((seq_nx s14).trans ((seq_nx s15).trans ((seq_nx s16).trans (seq_ret (ret_is r1)))))))))))))))))).trans ?_
  rfl
end PI.KK
namespace PI.KK
open PySem K84
theorem forL_inv {step : PI.D → PI.Env → RS} {I : PI.Env → Prop} : ∀ (l : List PI.D), (∀ d ∈ l, ∀ v, I v → ∃ v', step d v = .nx v' ∧ I v') → ∀ v, I v → ∃ v', forL step l v = .nx v' ∧ I v'
  | [], _, v, h => ⟨v, rfl, h⟩
  | d :: l, hs, v, h => by
    obtain ⟨v1, e, h1⟩ := hs d (by simp) v h
    obtain ⟨v2, e2, h2⟩ := forL_inv l (fun d hd => hs d (by simp [hd])) v1 h1
    exact ⟨v2, (forL_nx e).trans e2, h2⟩
abbrev C20 (n : Nat) : PI.Ctx := pg.ctx (pg.call (n + 4)) true d__law_there_and_back
theorem list_len {a b : Int} (ha : a.natAbs < 10 ^ 800) (hb : b.natAbs < 10 ^ 800) : (PyData.list [.int a, .int b]).shown.length ≤ sizeLine := by
  have h1 := int_text_len ha
  have h2 := int_text_len hb
  have e : (PyData.list [.int a, .int b]).shown = listText [(PyData.int a).shown, (PyData.int b).shown] := by simp only [PyData.shown, PyData.shownAll]
  rw [e]
  generalize (PyData.int a).shown = x at h1
  generalize (PyData.int b).shown = y at h2
  have hj := listText_len_le [x, y]
  simp at hj
  rw [sizeLine_eq]
  omega
theorem is_lists {n : Nat} {calm : Bool} {a b : Int} {o o' : Ow} (ha : a.natAbs < 10 ^ 800) (hb : b.natAbs < 10 ^ 800) : pg.call (n + 1) calm 4 [.lst o [.int a, .int b], .lst o' [.int a, .int b]] = .ret (.bl true) [some (.lst o [.int a, .int b]), some (.lst o' [.int a, .int b])] := by
  have hs : shW (.list [.int a, .int b]) = true := by
    have h1 := Nat.lt_trans (Nat.lt_trans ha pow800) pow_dig
    have h2 := Nat.lt_trans (Nat.lt_trans hb pow800) pow_dig
    simp [shW, shWL, h1, h2]
  have hl := list_len ha hb
  rw [call_is (p := .list [.int a, .int b]) (q := .list [.int a, .int b]) (by simp [D.py, D.pyL]) (by simp [D.py, D.pyL]) hs hs (by simp [PyData.depth, PyData.depthAll]) (by simp [PyData.depth, PyData.depthAll]) hl hl]
  simp
theorem call_back {a b : Int} (h : FR a b) (n : Nat) : ∃ o, pg.call (n + 5) true 20 [.tup [.int a, .int b]] = .ret (.bl true) o := by
  rw [call_eq (n := n + 4) (d := d__law_there_and_back) rfl rfl]
  let V : PI.D := .tup [.int a, .int b]
  obtain ⟨o1, c1⟩ := call_written h (n + 2)
  have c3 := call_format h (n + 3) V .own (.inl rfl)
  have c4 := call_format h (n + 3) (.lst .frz [.int a, .int b]) .frz (.inr rfl)
  have fw := FW_wr h
  obtain ⟨w, hw⟩ : ∃ w, w = wr a b := ⟨_, rfl⟩
  have okw : Ok w := by rw [hw]; exact (wr_okN h).ok (by decide)
  rw [← hw] at c1 c3 c4 fw
  obtain ⟨o5, c5⟩ := call_fword okw (n + 1)
  rw [fw] at c5
  obtain ⟨o6, c6⟩ := call_agrees okw n
  let v0 : PI.Env := [some V, none, none, none, none]
  let v1 : PI.Env := [some V, some (.str w), none, none, none]
  let v2 : PI.Env := [some V, some (.str w), some (.lst .own [.int a, .int b]), none, none]
  let v3 : PI.Env := [some V, some (.str w), some (.lst .own [.int a, .int b]), some (.str w), none]
  let v4 : PI.Env := [some V, some (.str w), some (.lst .frz [.int a, .int b]), some (.str w), some (.str w)]
  let v3' : PI.Env := [some V, some (.str w), some (.lst .frz [.int a, .int b]), some (.str w), none]
  have gv : ∀ v : PI.Env, getV v 0 = some V → evE (C20 n) (.ixv 0 (.int 0)) v = .ok (.int a) v ∧ evE (C20 n) (.ixv 0 (.int 1)) v = .ok (.int b) v := fun v g => get2 (o := .own) rfl rfl (.inl g)
  have s1 : exS (C20 n) (.set 1 (.call 13 (.cons (.var 0) .nil))) v0 = .nx v1 := set_is (i := 1) (call_vp (f := 13) (l := [V]) (evA_cons (ev_var rfl frz_pair rfl) evA_nil) c1) rfl
  have s2 : exS (C20 n) (.set 2 (.lst (.cons (.ixv 0 (.int 0)) (.cons (.ixv 0 (.int 1)) .nil)))) v1 = .nx v2 := set_is (i := 2) (ev_lst (l := [.int a, .int b]) (evA_cons (gv v1 rfl).1 (evA_cons (gv v1 rfl).2 evA_nil)) (size_ok (by show 2 ≤ 200000; decide))) rfl
  have s3 : exS (C20 n) (.set 3 (.call 3 (.cons (.tup (.cons (.ixv 0 (.int 0)) (.cons (.ixv 0 (.int 1)) .nil))) .nil))) v2 = .nx v3 := set_is (i := 3) (call_vp (f := 3) (l := [V]) (evA_cons (ev_tup (l := [.int a, .int b]) (evA_cons (gv v2 rfl).1 (evA_cons (gv v2 rfl).2 evA_nil)) (size_ok (by show 2 ≤ 200000; decide))) evA_nil) c3) rfl
  have r2 : evE (C20 n) (.var 2) v3 = .ok (.lst .frz [.int a, .int b]) v3' := by
    have g : getV v3 2 = some (.lst .own [.int a, .int b]) := rfl
    simp only [evE, rdV, g, PI.D.freeze, PI.D.freezeL, PI.D.fz]
    rfl
  have s4 : exS (C20 n) (.set 4 (.call 3 (.cons (.var 2) .nil))) v3 = .nx v4 := set_is (i := 4) (call_vp (f := 3) (l := [.lst .frz [.int a, .int b]]) (evA_cons r2 evA_nil) c4) rfl
  have i3 : evT (C20 n) (.ev (.isi 3 .str)) v4 = .ok true v4 := ev_ev (x := .bl true) (by rw [evE]; rfl) rfl
  have i4 : evT (C20 n) (.ev (.isi 4 .str)) v4 = .ok true v4 := ev_ev (x := .bl true) (by rw [evE]; rfl) rfl
  have x3 : evE (C20 n) (.var 3) v4 = .ok (.str w) v4 := ev_var rfl rfl rfl
  have x4 : evE (C20 n) (.var 4) v4 = .ok (.str w) v4 := ev_var rfl rfl rfl
  have x1 : evE (C20 n) (.var 1) v4 = .ok (.str w) v4 := ev_var rfl rfl rfl
  have x0 : evE (C20 n) (.var 0) v4 = .ok V v4 := ev_var rfl frz_pair rfl
  have x2 : evE (C20 n) (.var 2) v4 = .ok (.lst .frz [.int a, .int b]) v4 := ev_var rfl (by simp [PI.D.freeze, PI.D.freezeL, PI.D.fz]) rfl
  have xl : evE (C20 n) (.lst (.cons (.ixv 0 (.int 0)) (.cons (.ixv 0 (.int 1)) .nil))) v4 = .ok (.lst .own [.int a, .int b]) v4 := ev_lst (l := [.int a, .int b]) (evA_cons (gv v4 rfl).1 (evA_cons (gv v4 rfl).2 evA_nil)) (size_ok (by show 2 ≤ 200000; decide))
  have t1 : evT (C20 n) (.ev (.call 4 (.cons (.var 3) (.cons (.var 1) .nil)))) v4 = .ok true v4 := ev_ev (call_vp (f := 4) (l := [.str w, .str w]) (evA_cons x3 (evA_cons x1 evA_nil)) (is_same (n := n + 3) okw)) rfl
  have t2 : evT (C20 n) (.ev (.call 4 (.cons (.var 4) (.cons (.var 1) .nil)))) v4 = .ok true v4 := ev_ev (call_vp (f := 4) (l := [.str w, .str w]) (evA_cons x4 (evA_cons x1 evA_nil)) (is_same (n := n + 3) okw)) rfl
  have t3 : evT (C20 n) (.ev (.call 4 (.cons (.var 2) (.cons (.lst (.cons (.ixv 0 (.int 0)) (.cons (.ixv 0 (.int 1)) .nil))) .nil)))) v4 = .ok true v4 := ev_ev (call_vp (f := 4) (l := [.lst .frz [.int a, .int b], .lst .own [.int a, .int b]]) (evA_cons x2 (evA_cons xl evA_nil)) (is_lists (n := n + 3) h.top h.bot)) rfl
  have e5 : evE (C20 n) (.call 15 (.cons (.var 1) .nil)) v4 = .ok V v4 := call_vp (f := 15) (l := [.str w]) (evA_cons x1 evA_nil) c5
  have e6 : evE (C20 n) (.call 4 (.cons (.call 15 (.cons (.var 1) .nil)) (.cons (.var 0) .nil))) v4 = .ok (.bl true) v4 := call_vp (f := 4) (l := [V, V]) (evA_cons e5 (evA_cons x0 evA_nil)) (is_pair (n := n + 3) h.top h.bot)
  have e7 : evE (C20 n) (.call 19 (.cons (.var 1) .nil)) v4 = .ok (.bl true) v4 := call_vp (f := 19) (l := [.str w]) (evA_cons x1 evA_nil) c6
  refine ⟨[some V], ?_⟩
  show endC 1 (exSs (C20 n) b__law_there_and_back v0) = _
  unfold b__law_there_and_back
  refine (congrArg (endC 1) ((seq_nx s1).trans ((seq_nx s2).trans ((seq_nx s3).trans ((seq_nx s4).trans ((seq_nx ((if_f ((ev_or_f (ev_not i3)).trans (ev_one.trans (ev_not i4)))).trans seq_nil)).trans
    ((seq_nx ((if_f ((ev_or_f (ev_not t1)).trans ((ev_or_f (ev_not t2)).trans (ev_one.trans (ev_not t3))))).trans seq_nil)).trans (seq_ret (ret_is ((ev_andE_t e6).trans (ev_oneE.trans e7))))))))))).trans ?_
  rfl
abbrev C21 (n : Nat) : PI.Ctx := pg.ctx (pg.call (n + 5)) true d_law
theorem call_law (ns : List Int) (n : Nat) : ∃ o, pg.call (n + 6) true 21 [SC ns] = .ret (.bl true) o := by
  rw [call_eq (n := n + 5) (d := d_law) rfl rfl]
  obtain ⟨a, b, o1, f1, c1⟩ := call_fraction ns 0 (by decide) (n + 2)
  obtain ⟨a2, b2, o2, f2, c2⟩ := call_fraction ns 3 (by decide) (n + 2)
  obtain ⟨o3, c3⟩ := call_back f1 n
  obtain ⟨o4, c4⟩ := call_back f2 n
  let V1 : PI.D := .tup [.int a, .int b]
  let V2 : PI.D := .tup [.int a2, .int b2]
  let v0 : PI.Env := [some (SC ns), none, none, none]
  let vv (x y : Option PI.D) : PI.Env := [some (SC ns), some (.lst .own [V1, V2]), x, y]
  have sc : ∀ v : PI.Env, getV v 0 = some (SC ns) → v.set 0 (some (SC ns)) = v → evE (C21 n) (.var 0) v = .ok (SC ns) v := fun v g1 g2 => ev_var g1 (frz_sc ns) g2
  have s1 : exS (C21 n) (.set 1 (.lst (.cons (.call 12 (.cons (.var 0) (.cons (.int 0) .nil))) (.cons (.call 12 (.cons (.var 0) (.cons (.int 3) .nil))) .nil)))) v0 = .nx (vv none none) :=
    set_is (i := 1) (ev_lst (l := [V1, V2]) (evA_cons (call_vp (f := 12) (l := [SC ns, .int ((0 : Nat) : Int)]) (evA_cons (sc v0 rfl rfl) (evA_cons ev_int evA_nil)) c1) (evA_cons (call_vp (f := 12) (l := [SC ns, .int ((3 : Nat) : Int)]) (evA_cons (sc v0 rfl rfl) (evA_cons ev_int evA_nil)) c2) evA_nil)) (size_ok (by show 2 ≤ 200000; decide))) rfl
  have fV1 : V1.frozen = true := rfl
  have fV2 : V2.frozen = true := rfl
  have g0 : ∀ x y, evE (C21 n) (.ixv 1 (.int 0)) (vv x y) = .ok V1 (vv x y) := fun x y => ixv_is (d := .lst .own [V1, V2]) rfl ev_int rfl fV1
  have g1 : ∀ x y, evE (C21 n) (.ixv 1 (.int 1)) (vv x y) = .ok V2 (vv x y) := fun x y => ixv_is (d := .lst .own [V1, V2]) rfl ev_int rfl fV2
  have b1 : ∀ x y, evE (C21 n) (.call 20 (.cons (.ixv 1 (.int 0)) .nil)) (vv x y) = .ok (.bl true) (vv x y) := fun x y => call_vp (f := 20) (l := [V1]) (evA_cons (g0 x y) evA_nil) c3
  have b2' : ∀ x y, evE (C21 n) (.call 20 (.cons (.ixv 1 (.int 1)) .nil)) (vv x y) = .ok (.bl true) (vv x y) := fun x y => call_vp (f := 20) (l := [V2]) (evA_cons (g1 x y) evA_nil) c4
  let I : PI.Env → Prop := fun v => ∃ x y, v = vv x y
  let st1 : PI.D → PI.Env → RS := fun d v2 => asR (C21 n) (.nm 2) d v2 fun v3 => exSs (C21 n) (.cons (.set 3 (.call 7 (.cons (.call 6 (.cons (.var 0) (.cons (.bin .Add (.int 6) (.var 2)) .nil))) (.cons (.lst (.cons (.int 28) (.cons (.int 48) (.cons (.int 9) (.cons (.int 10) (.cons (.int 1000) (.cons (.int 190) .nil))))))) .nil))))
 (.cons (.ife (.notT (.ev (.call 19 (.cons (.call 17 (.cons (.ixv 1 (.bin .Mod (.biv .int 2) (.int 2))) (.cons (.var 3) .nil))) .nil)))) (.cons (.ret (.bl false))
 .nil) .nil)
 .nil)) v3
  have l1 : ∀ v, I v → ∃ v', forL st1 ((List.range 10).map fun (k : Nat) => PI.D.int k) v = .nx v' ∧ I v' := by
    refine forL_inv _ ?_
    rintro d hd v ⟨x, y, rfl⟩
    obtain ⟨k, hk, rfl⟩ := List.mem_map.mp hd
    have hk : k < 10 := List.mem_range.mp hk
    obtain ⟨c, o5, c5⟩ := call_cell ns (6 + k) (by omega) (n + 4)
    obtain ⟨ds, o6, hl, hb, c6⟩ := call_digits c [28, 48, 9, 10, 1000, 190] (by decide) (by decide) (n + 4)
    match ds, hl, hb, c6 with
    | [d0, d1, d2, d3, d4, d5], _, hb, c6 =>
    have q0 := below_get hb 0 rfl rfl
    have q1 := below_get hb 1 rfl rfl
    have q2 := below_get hb 2 rfl rfl
    have q3 := below_get hb 3 rfl rfl
    have hkI : ((6 + k : Nat) : Int) = 6 + (k : Int) := by omega
    rw [hkI] at c5
    let L : PI.D := .lst .frz (nats [d0, d1, d2, d3, d4, d5])
    have a0 : asT (C21 n) (.nm 2) (.int (k : Int)) (vv x y) = some (vv (some (.int k)) y) := rfl
    have e1 : evE (C21 n) (.call 6 (.cons (.var 0) (.cons (.bin .Add (.int 6) (.var 2)) .nil))) (vv (some (.int k)) y) = .ok (.int c) (vv (some (.int k)) y) :=
      call_vp (f := 6) (l := [SC ns, .int (6 + (k : Int))]) (evA_cons (sc _ rfl rfl) (evA_cons (ev_bin ev_int (ev_var rfl rfl rfl) (binD_addI _ _)) evA_nil)) c5
    have e2 : exS (C21 n) (.set 3 (.call 7 (.cons (.call 6 (.cons (.var 0) (.cons (.bin .Add (.int 6) (.var 2)) .nil))) (.cons (.lst (.cons (.int 28) (.cons (.int 48) (.cons (.int 9) (.cons (.int 10) (.cons (.int 1000) (.cons (.int 190) .nil))))))) .nil)))) (vv (some (.int k)) y) = .nx (vv (some (.int k)) (some L)) :=
      set_is (i := 3) (call_vp (f := 7) (l := [.int c, .lst .own (nats [28, 48, 9, 10, 1000, 190])]) (evA_cons e1 (evA_cons (ev_lst (l := nats [28, 48, 9, 10, 1000, 190]) (evA_cons ev_int (evA_cons ev_int (evA_cons ev_int (evA_cons ev_int (evA_cons ev_int (evA_cons ev_int evA_nil)))))) (size_ok (by show 6 ≤ 200000; decide))) evA_nil)) c6) rfl
    have rL : evE (C21 n) (.var 3) (vv (some (.int k)) (some L)) = .ok L (vv (some (.int k)) (some L)) := ev_var rfl (by show (PI.D.lst .frz (nats _)).freeze = _; simp only [PI.D.freeze, frz_nats, PI.D.fz]; rfl) rfl
    have m2 : evE (C21 n) (.bin .Mod (.biv .int 2) (.int 2)) (vv (some (.int k)) (some L)) = .ok (.int ((k : Int).fmod 2)) (vv (some (.int k)) (some L)) := ev_bin (ev_biv (d := .int k) rfl rfl rfl) ev_int (binD_mod (by decide))
    have pick : ∃ a b, FR a b ∧ evE (C21 n) (.ixv 1 (.bin .Mod (.biv .int 2) (.int 2))) (vv (some (.int k)) (some L)) = .ok (.tup [.int a, .int b]) (vv (some (.int k)) (some L)) := by
      have h0 : 0 ≤ (k : Int).fmod 2 := Int.fmod_nonneg_of_pos _ (by decide)
      have h1 : (k : Int).fmod 2 < 2 := Int.fmod_lt_of_pos _ (by decide)
      generalize (k : Int).fmod 2 = r at m2 h0 h1
      have : r = 0 ∨ r = 1 := by omega
      rcases this with rfl | rfl
      · exact ⟨a, b, f1, ixv_is (d := .lst .own [V1, V2]) rfl m2 rfl fV1⟩
      · exact ⟨a2, b2, f2, ixv_is (d := .lst .own [V1, V2]) rfl m2 rfl fV2⟩
    obtain ⟨pa, pb, pf, pe⟩ := pick
    obtain ⟨w, o7, okw, c7⟩ := call_changed pf (d0 := d0) (d1 := d1) (d2 := d2) (d3 := d3) (d4 := d4) (d5 := d5) q0 q1 q2 q3 (n + 2)
    obtain ⟨o8, c8⟩ := call_agrees okw (n + 1)
    have e3 : evE (C21 n) (.call 17 (.cons (.ixv 1 (.bin .Mod (.biv .int 2) (.int 2))) (.cons (.var 3) .nil))) (vv (some (.int k)) (some L)) = .ok (.str w) (vv (some (.int k)) (some L)) := call_vp (f := 17) (l := [.tup [.int pa, .int pb], L]) (evA_cons pe (evA_cons rL evA_nil)) c7
    have e4 : evT (C21 n) (.ev (.call 19 (.cons (.call 17 (.cons (.ixv 1 (.bin .Mod (.biv .int 2) (.int 2))) (.cons (.var 3) .nil))) .nil))) (vv (some (.int k)) (some L)) = .ok true (vv (some (.int k)) (some L)) := ev_ev (call_vp (f := 19) (l := [.str w]) (evA_cons e3 evA_nil) c8) rfl
    refine ⟨vv (some (.int k)) (some L), ?_, _, _, rfl⟩
    show asR (C21 n) (.nm 2) (.int (k : Int)) (vv x y) _ = _
    simp only [asR, a0]
    exact (seq_nx e2).trans ((seq_nx ((if_f (ev_not e4)).trans seq_nil)).trans seq_nil)
  let st2 : PI.D → PI.Env → RS := fun d v2 => asR (C21 n) (.nm 2) d v2 fun v3 => exSs (C21 n) (.cons (.ife (.notT (.ev (.call 19 (.cons (.call 18 (.cons (.call 6 (.cons (.var 0) (.cons (.bin .Add (.int 16) (.var 2)) .nil))) .nil)) .nil)))) (.cons (.ret (.bl false))
 .nil) .nil)
 .nil) v3
  have l2 : ∀ v, I v → ∃ v', forL st2 ((List.range 8).map fun (k : Nat) => PI.D.int k) v = .nx v' ∧ I v' := by
    refine forL_inv _ ?_
    rintro d hd v ⟨x, y, rfl⟩
    obtain ⟨k, hk, rfl⟩ := List.mem_map.mp hd
    have hk : k < 8 := List.mem_range.mp hk
    obtain ⟨c, o5, c5⟩ := call_cell ns (16 + k) (by omega) (n + 4)
    have hkI : ((16 + k : Nat) : Int) = 16 + (k : Int) := by omega
    rw [hkI] at c5
    obtain ⟨w, o6, okw, c6⟩ := call_pool (c := c) (n + 3)
    obtain ⟨o8, c8⟩ := call_agrees okw (n + 1)
    have a0 : asT (C21 n) (.nm 2) (.int (k : Int)) (vv x y) = some (vv (some (.int k)) y) := rfl
    have e1 : evE (C21 n) (.call 6 (.cons (.var 0) (.cons (.bin .Add (.int 16) (.var 2)) .nil))) (vv (some (.int k)) y) = .ok (.int c) (vv (some (.int k)) y) :=
      call_vp (f := 6) (l := [SC ns, .int (16 + (k : Int))]) (evA_cons (sc _ rfl rfl) (evA_cons (ev_bin ev_int (ev_var rfl rfl rfl) (binD_addI _ _)) evA_nil)) c5
    have e3 : evE (C21 n) (.call 18 (.cons (.call 6 (.cons (.var 0) (.cons (.bin .Add (.int 16) (.var 2)) .nil))) .nil)) (vv (some (.int k)) y) = .ok (.str w) (vv (some (.int k)) y) := call_vp (f := 18) (l := [.int c]) (evA_cons e1 evA_nil) c6
    have e4 : evT (C21 n) (.ev (.call 19 (.cons (.call 18 (.cons (.call 6 (.cons (.var 0) (.cons (.bin .Add (.int 16) (.var 2)) .nil))) .nil)) .nil))) (vv (some (.int k)) y) = .ok true (vv (some (.int k)) y) := ev_ev (call_vp (f := 19) (l := [.str w]) (evA_cons e3 evA_nil) c8) rfl
    refine ⟨vv (some (.int k)) y, ?_, _, _, rfl⟩
    show asR (C21 n) (.nm 2) (.int (k : Int)) (vv x y) _ = _
    simp only [asR, a0]
    exact (seq_nx ((if_f (ev_not e4)).trans seq_nil)).trans seq_nil
  obtain ⟨v2, m2, x2, y2, rfl⟩ := l1 (vv none none) ⟨_, _, rfl⟩
  obtain ⟨v3, m3, x3, y3, rfl⟩ := l2 (vv x2 y2) ⟨_, _, rfl⟩
  have r10 : ∀ v, evI (C21 n) (.rng (.cons (.int 10) .nil)) v = .ok ((List.range 10).map fun (k : Nat) => PI.D.int k) v := fun v => evI_rng1 (j := ((10 : Nat) : Int)) ev_int (rngD_nat (by decide))
  have r8 : ∀ v, evI (C21 n) (.rng (.cons (.int 8) .nil)) v = .ok ((List.range 8).map fun (k : Nat) => PI.D.int k) v := fun v => evI_rng1 (j := ((8 : Nat) : Int)) ev_int (rngD_nat (by decide))
  refine ⟨[some (SC ns)], ?_⟩
  show endC 1 (exSs (C21 n) b_law v0) = _
  unfold b_law
  refine (congrArg (endC 1) ((seq_nx s1).trans ((seq_nx ((if_f ((ev_or_f (ev_not (ev_ev (b1 none none) rfl))).trans (ev_one.trans (ev_not (ev_ev (b2' none none) rfl))))).trans seq_nil)).trans
    ((seq_nx (for_is rfl (r10 _) m2)).trans ((seq_nx (for_is rfl (r8 _) m3)).trans (seq_ret (ret_is (b1 x3 y3)))))))).trans ?_
  rfl
end PI.KK
namespace K84
open PySem PySem.Spec PyProof.Rows L2 PI
def C0 : PI.Ctx := pg.ctx (pg.call 10) true d_law
theorem the_law (ns : List Int) (h : ns.length ≤ 63) : ∃ o, C0.cf true 21 [.lst .wr (ns.map PI.D.int)] = .ret (.bl true) o := by
  exact PI.KK.call_law ns 4
end K84
open PySem PySem.W PyProof.Rows
set_option maxRecDepth 100000 in
set_option maxHeartbeats 40000000 in
theorem PySem.Challenge.cw_cutmakers_k84_ratio_words_holds : PySem.Challenge.rw_cutmakers_k84_ratio_words.Holds := by
  w_on; o_law; k_head
  (case hw => w_witness2)
  k_fill
  refine PI.walk_ofP (n := 63) (k := 13) (C := K84.C0) (f := 21) (x := "script") rfl (by decide) rfl ⟨⟨by decide, by decide⟩, rfl⟩ (fun w h Y => PySem.W.kIn_of Y) ?F K84.the_law
  case F =>
    intro w mg fa h KX G hmg
    have q := by
      refine' K84.all_mk (P := PySem.Challenge.rw_cutmakers_k84_ratio_words.prog) (w := w) KX G hmg ?a_parse_number ?l_parse_number ?c_parse_number ?k_parse_number ?a_read_ratio ?l_read_ratio ?c_read_ratio ?k_read_ratio ?a_parse_ratio ?l_parse_ratio ?c_parse_ratio ?k_parse_ratio ?a_format_ratio ?l_format_ratio ?c_format_ratio ?k_format_ratio ?a__law_is ?l__law_is ?c__law_is ?k__law_is ?a__law_whole ?l__law_whole ?c__law_whole ?k__law_whole ?a__law_cell ?l__law_cell ?c__law_cell ?k__law_cell ?a__law_digits ?l__law_digits ?c__law_digits ?k__law_digits ?a__law_gcd ?l__law_gcd ?c__law_gcd ?k__law_gcd ?a__law_ratio ?l__law_ratio ?c__law_ratio ?k__law_ratio ?a__law_is_ratio ?l__law_is_ratio ?c__law_is_ratio ?k__law_is_ratio ?a__law_joined ?l__law_joined ?c__law_joined ?k__law_joined ?a__law_fraction ?l__law_fraction ?c__law_fraction ?k__law_fraction ?a__law_written ?l__law_written ?c__law_written ?k__law_written ?a__law_number_word ?l__law_number_word ?c__law_number_word ?k__law_number_word ?a__law_fraction_word ?l__law_fraction_word ?c__law_fraction_word ?k__law_fraction_word ?a__law_sign ?l__law_sign ?c__law_sign ?k__law_sign ?a__law_changed ?l__law_changed ?c__law_changed ?k__law_changed ?a__law_pool_word ?l__law_pool_word ?c__law_pool_word ?k__law_pool_word ?a__law_agrees ?l__law_agrees ?c__law_agrees ?k__law_agrees ?a__law_there_and_back ?l__law_there_and_back ?c__law_there_and_back ?k__law_there_and_back ?a_law ?l_law ?c_law ?k_law ?g_CutError ?eb_CutError ?hb_CutError ?tb_CutError ?g_ZeroBottom ?eb_ZeroBottom ?hb_ZeroBottom ?tb_ZeroBottom ?g_BadShape ?eb_BadShape ?hb_BadShape ?tb_BadShape ?g_FlatLattice ?eb_FlatLattice ?hb_FlatLattice ?tb_FlatLattice ?g_NothingToUndo ?eb_NothingToUndo ?hb_NothingToUndo ?tb_NothingToUndo ?g_NothingToRedo ?eb_NothingToRedo ?hb_NothingToRedo ?tb_NothingToRedo ?g_BadLine ?eb_BadLine ?hb_BadLine ?tb_BadLine ?g_BadRest ?eb_BadRest ?hb_BadRest ?tb_BadRest ?g_OffWheel ?eb_OffWheel ?hb_OffWheel ?tb_OffWheel ?g_Wasteful ?eb_Wasteful ?hb_Wasteful ?tb_Wasteful ?g_CutsOff ?eb_CutsOff ?hb_CutsOff ?tb_CutsOff ?g_BadOrder ?eb_BadOrder ?hb_BadOrder ?tb_BadOrder ?g_NotTwoSlopes ?eb_NotTwoSlopes ?hb_NotTwoSlopes ?tb_NotTwoSlopes ?g_NoWalk ?eb_NoWalk ?hb_NoWalk ?tb_NoWalk ?g_OffRest ?eb_OffRest ?hb_OffRest ?tb_OffRest ?g_CheaperColumn ?eb_CheaperColumn ?hb_CheaperColumn ?tb_CheaperColumn ?g_BadWord ?eb_BadWord ?hb_BadWord ?tb_BadWord ?g_BadText ?eb_BadText ?hb_BadText ?tb_BadText ?g_TakenName ?eb_TakenName ?hb_TakenName ?tb_TakenName ?g_UnknownName ?eb_UnknownName ?hb_UnknownName ?tb_UnknownName ?g_StillUsed ?eb_StillUsed ?hb_StillUsed ?tb_StillUsed ?g_TooFine ?eb_TooFine ?hb_TooFine ?tb_TooFine ?xL_BadWord ?rb_BadWord ?sa_BadWord ?ga_BadWord ?gg_BadWord ?eC_BadWord ?tC_BadWord ?kC_BadWord ?hC_BadWord ?ca_BadWord ?mo_BadWord ?ve_BadWord ?sl_BadWord ?iC_BadWord ?tI_BadWord ?no_BadWord_word ?li_BadWord ?ci_BadWord ?sb_BadWord_CutError ?sb_BadWord_ZeroBottom ?sb_BadWord_BadShape ?sb_BadWord_FlatLattice ?sb_BadWord_NothingToUndo ?sb_BadWord_NothingToRedo ?sb_BadWord_BadLine ?sb_BadWord_BadRest ?sb_BadWord_OffWheel ?sb_BadWord_Wasteful ?sb_BadWord_CutsOff ?sb_BadWord_BadOrder ?sb_BadWord_NotTwoSlopes ?sb_BadWord_NoWalk ?sb_BadWord_OffRest ?sb_BadWord_CheaperColumn ?sb_BadWord_BadWord ?sb_BadWord_BadText ?sb_BadWord_TakenName ?sb_BadWord_UnknownName ?sb_BadWord_StillUsed ?sb_BadWord_TooFine ?ogn ?otk ?a_gcd ?n_len ?n_int ?n_str ?n_abs ?n_max ?n_min ?n_repr ?n_tuple ?n_list ?n_range ?n_isinstance ?n_bool ?n_ValueError
      (case a_parse_number => k_is)
      (case l_parse_number => k_is)
      (case c_parse_number => k_is)
      (case k_parse_number => k_is)
      (case a_read_ratio => k_is)
      (case l_read_ratio => k_is)
      (case c_read_ratio => k_is)
      (case k_read_ratio => k_is)
      (case a_parse_ratio => k_is)
      (case l_parse_ratio => k_is)
      (case c_parse_ratio => k_is)
      (case k_parse_ratio => k_is)
      (case a_format_ratio => k_is)
      (case l_format_ratio => k_is)
      (case c_format_ratio => k_is)
      (case k_format_ratio => k_is)
      (case a__law_is => k_is)
      (case l__law_is => k_is)
      (case c__law_is => k_is)
      (case k__law_is => k_is)
      (case a__law_whole => k_is)
      (case l__law_whole => k_is)
      (case c__law_whole => k_is)
      (case k__law_whole => k_is)
      (case a__law_cell => k_is)
      (case l__law_cell => k_is)
      (case c__law_cell => k_is)
      (case k__law_cell => k_is)
      (case a__law_digits => k_is)
      (case l__law_digits => k_is)
      (case c__law_digits => k_is)
      (case k__law_digits => k_is)
      (case a__law_gcd => k_is)
      (case l__law_gcd => k_is)
      (case c__law_gcd => k_is)
      (case k__law_gcd => k_is)
      (case a__law_ratio => k_is)
      (case l__law_ratio => k_is)
      (case c__law_ratio => k_is)
      (case k__law_ratio => k_is)
      (case a__law_is_ratio => k_is)
      (case l__law_is_ratio => k_is)
      (case c__law_is_ratio => k_is)
      (case k__law_is_ratio => k_is)
      (case a__law_joined => k_is)
      (case l__law_joined => k_is)
      (case c__law_joined => k_is)
      (case k__law_joined => k_is)
      (case a__law_fraction => k_is)
      (case l__law_fraction => k_is)
      (case c__law_fraction => k_is)
      (case k__law_fraction => k_is)
      (case a__law_written => k_is)
      (case l__law_written => k_is)
      (case c__law_written => k_is)
      (case k__law_written => k_is)
      (case a__law_number_word => k_is)
      (case l__law_number_word => k_is)
      (case c__law_number_word => k_is)
      (case k__law_number_word => k_is)
      (case a__law_fraction_word => k_is)
      (case l__law_fraction_word => k_is)
      (case c__law_fraction_word => k_is)
      (case k__law_fraction_word => k_is)
      (case a__law_sign => k_is)
      (case l__law_sign => k_is)
      (case c__law_sign => k_is)
      (case k__law_sign => k_is)
      (case a__law_changed => k_is)
      (case l__law_changed => k_is)
      (case c__law_changed => k_is)
      (case k__law_changed => k_is)
      (case a__law_pool_word => k_is)
      (case l__law_pool_word => k_is)
      (case c__law_pool_word => k_is)
      (case k__law_pool_word => k_is)
      (case a__law_agrees => k_is)
      (case l__law_agrees => k_is)
      (case c__law_agrees => k_is)
      (case k__law_agrees => k_is)
      (case a__law_there_and_back => k_is)
      (case l__law_there_and_back => k_is)
      (case c__law_there_and_back => k_is)
      (case k__law_there_and_back => k_is)
      (case a_law => k_is)
      (case l_law => k_is)
      (case c_law => k_is)
      (case k_law => k_is)
      (case g_CutError => k_is)
      (case eb_CutError => k_is)
      (case hb_CutError => k_is)
      (case tb_CutError => k_is)
      (case g_ZeroBottom => k_is)
      (case eb_ZeroBottom => k_is)
      (case hb_ZeroBottom => k_is)
      (case tb_ZeroBottom => k_is)
      (case g_BadShape => k_is)
      (case eb_BadShape => k_is)
      (case hb_BadShape => k_is)
      (case tb_BadShape => k_is)
      (case g_FlatLattice => k_is)
      (case eb_FlatLattice => k_is)
      (case hb_FlatLattice => k_is)
      (case tb_FlatLattice => k_is)
      (case g_NothingToUndo => k_is)
      (case eb_NothingToUndo => k_is)
      (case hb_NothingToUndo => k_is)
      (case tb_NothingToUndo => k_is)
      (case g_NothingToRedo => k_is)
      (case eb_NothingToRedo => k_is)
      (case hb_NothingToRedo => k_is)
      (case tb_NothingToRedo => k_is)
      (case g_BadLine => k_is)
      (case eb_BadLine => k_is)
      (case hb_BadLine => k_is)
      (case tb_BadLine => k_is)
      (case g_BadRest => k_is)
      (case eb_BadRest => k_is)
      (case hb_BadRest => k_is)
      (case tb_BadRest => k_is)
      (case g_OffWheel => k_is)
      (case eb_OffWheel => k_is)
      (case hb_OffWheel => k_is)
      (case tb_OffWheel => k_is)
      (case g_Wasteful => k_is)
      (case eb_Wasteful => k_is)
      (case hb_Wasteful => k_is)
      (case tb_Wasteful => k_is)
      (case g_CutsOff => k_is)
      (case eb_CutsOff => k_is)
      (case hb_CutsOff => k_is)
      (case tb_CutsOff => k_is)
      (case g_BadOrder => k_is)
      (case eb_BadOrder => k_is)
      (case hb_BadOrder => k_is)
      (case tb_BadOrder => k_is)
      (case g_NotTwoSlopes => k_is)
      (case eb_NotTwoSlopes => k_is)
      (case hb_NotTwoSlopes => k_is)
      (case tb_NotTwoSlopes => k_is)
      (case g_NoWalk => k_is)
      (case eb_NoWalk => k_is)
      (case hb_NoWalk => k_is)
      (case tb_NoWalk => k_is)
      (case g_OffRest => k_is)
      (case eb_OffRest => k_is)
      (case hb_OffRest => k_is)
      (case tb_OffRest => k_is)
      (case g_CheaperColumn => k_is)
      (case eb_CheaperColumn => k_is)
      (case hb_CheaperColumn => k_is)
      (case tb_CheaperColumn => k_is)
      (case g_BadWord => k_is)
      (case eb_BadWord => k_is)
      (case hb_BadWord => k_is)
      (case tb_BadWord => k_is)
      (case g_BadText => k_is)
      (case eb_BadText => k_is)
      (case hb_BadText => k_is)
      (case tb_BadText => k_is)
      (case g_TakenName => k_is)
      (case eb_TakenName => k_is)
      (case hb_TakenName => k_is)
      (case tb_TakenName => k_is)
      (case g_UnknownName => k_is)
      (case eb_UnknownName => k_is)
      (case hb_UnknownName => k_is)
      (case tb_UnknownName => k_is)
      (case g_StillUsed => k_is)
      (case eb_StillUsed => k_is)
      (case hb_StillUsed => k_is)
      (case tb_StillUsed => k_is)
      (case g_TooFine => k_is)
      (case eb_TooFine => k_is)
      (case hb_TooFine => k_is)
      (case tb_TooFine => k_is)
      (case xL_BadWord => k_is)
      (case rb_BadWord => first | rfl | decide +kernel)
      (case sa_BadWord => k_is)
      (case ga_BadWord => k_is)
      (case gg_BadWord => k_is)
      (case eC_BadWord => k_is)
      (case tC_BadWord => k_is)
      (case kC_BadWord => k_is)
      (case hC_BadWord => k_is)
      (case ca_BadWord => k_is)
      (case mo_BadWord => k_is)
      (case ve_BadWord => k_is)
      (case sl_BadWord => first | k_is | rfl)
      (case iC_BadWord => k_is)
      (case tI_BadWord => k_is)
      (case no_BadWord_word => k_is)
      (case li_BadWord => k_is)
      (case ci_BadWord => k_is)
      (case sb_BadWord_CutError => k_is)
      (case sb_BadWord_ZeroBottom => k_is)
      (case sb_BadWord_BadShape => k_is)
      (case sb_BadWord_FlatLattice => k_is)
      (case sb_BadWord_NothingToUndo => k_is)
      (case sb_BadWord_NothingToRedo => k_is)
      (case sb_BadWord_BadLine => k_is)
      (case sb_BadWord_BadRest => k_is)
      (case sb_BadWord_OffWheel => k_is)
      (case sb_BadWord_Wasteful => k_is)
      (case sb_BadWord_CutsOff => k_is)
      (case sb_BadWord_BadOrder => k_is)
      (case sb_BadWord_NotTwoSlopes => k_is)
      (case sb_BadWord_NoWalk => k_is)
      (case sb_BadWord_OffRest => k_is)
      (case sb_BadWord_CheaperColumn => k_is)
      (case sb_BadWord_BadWord => k_is)
      (case sb_BadWord_BadText => k_is)
      (case sb_BadWord_TakenName => k_is)
      (case sb_BadWord_UnknownName => k_is)
      (case sb_BadWord_StillUsed => k_is)
      (case sb_BadWord_TooFine => k_is)
      (case ogn => k_is)
      (case otk => k_is)
      (case a_gcd => k_is)
      (case n_len => k_is)
      (case n_int => k_is)
      (case n_str => k_is)
      (case n_abs => k_is)
      (case n_max => k_is)
      (case n_min => k_is)
      (case n_repr => k_is)
      (case n_tuple => k_is)
      (case n_list => k_is)
      (case n_range => k_is)
      (case n_isinstance => k_is)
      (case n_bool => k_is)
      (case n_ValueError => k_is)
    exact ⟨_, _, (fun s u => .of_eq rfl), fun base _ _ hd => PI.all_fn q.1 hd 10 21 K84.d_law fa _ ["script"] K84.C0 rfl q.2 rfl rfl⟩
