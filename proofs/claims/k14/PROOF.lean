import PyProof.Rows.All
import KE.KDictKeyed
import Wide.All
import OpenK.AllK
import Wide.FinOn
import KE.KDictWalk
import HandS.ForMost
import HandS.DictComp
import HandS.Conv
import HandS.IsInst
import HandS.Codes
import HandS.Defaults
import HandS.TupAny
import HandS.SortInts
import HandS.Deep
import HandS.Walk
import HandS.NoneIn
import PySem.Challenge.RW_sealedtalk_k14_whole_hearings_renamed
import HandS.Style
import KE.KStateDown
import Lean
import HandS.WordsExc
import HandS.Head0
import HandS.Head1
import HandS.Head2
import HandS.HeadEnd
import HandS.HeadHook1
import HandS.HeadHook2
import HandS.HeadHook3
import HandS.HeadHook4
set_option Elab.async false
set_option linter.all false
set_option maxRecDepth 100000
set_option maxHeartbeats 0
/-! Terms as plain data: what is built, opened, closed; renaming; wordings. -/
namespace Kt
open PySem

inductive G1 where
  | half | mix
  deriving DecidableEq
inductive G2 where
  | pair | box | shut | mark
  deriving DecidableEq
inductive Tm where
  | nm (x : Str)
  | un (g : G1) (a : Tm)
  | bi (g : G2) (a b : Tm)
  deriving DecidableEq

def G1.s : G1 → Str
  | .half => "half"
  | .mix => "mix"
def G2.s : G2 → Str
  | .pair => "pair"
  | .box => "box"
  | .shut => "shut"
  | .mark => "mark"
namespace Tm
def isNm : Tm → Bool
  | nm _ => true
  | _ => false
def kids : Tm → List Tm
  | nm _ => []
  | un _ a => [a]
  | bi _ a b => [a, b]
def depth : Tm → Nat
  | nm _ => 1
  | un _ a => depth a + 1
  | bi _ a b => max (depth a) (depth b) + 1
def size : Tm → Nat
  | nm _ => 1
  | un _ a => size a
  | bi _ a b => size a + size b
def map (f : Str → Str) : Tm → Tm
  | nm x => nm (f x)
  | un g a => un g (map f a)
  | bi g a b => bi g (map f a) (map f b)
/-- a term over the names of which N holds -/
def WF (N : Str → Prop) : Tm → Prop
  | nm x => N x
  | un .half a => ∃ x, a = nm x ∧ N x
  | un .mix a => WF N a
  | bi .pair a b => WF N a ∧ WF N b
  | bi .box a b => WF N a ∧ WF N b
  | bi .shut a b => (∃ x, a = nm x ∧ N x) ∧ WF N b
  | bi .mark a b => (∃ x, a = nm x ∧ N x) ∧ WF N b
end Tm
open Tm
theorem WF.kid {N : Str → Prop} : ∀ {t k : Tm}, WF N t → k ∈ t.kids → WF N k
  | nm x, k, _, h => by cases h
  | un .half a, k, w, h => by
    obtain ⟨x, rfl, n⟩ := w
    have e : k = nm x := by simpa [Tm.kids] using h
    subst e; exact n
  | un .mix a, k, w, h => by
    have e : k = a := by simpa [Tm.kids] using h
    subst e; exact w
  | bi .pair a b, k, w, h => by
    rcases (by simpa [Tm.kids] using h : k = a ∨ k = b) with e | e <;> subst e
    · exact w.1
    · exact w.2
  | bi .box a b, k, w, h => by
    rcases (by simpa [Tm.kids] using h : k = a ∨ k = b) with e | e <;> subst e
    · exact w.1
    · exact w.2
  | bi .shut a b, k, w, h => by
    obtain ⟨⟨x, rfl, n⟩, w2⟩ := w
    rcases (by simpa [Tm.kids] using h : k = nm x ∨ k = b) with e | e <;> subst e
    · exact n
    · exact w2
  | bi .mark a b, k, w, h => by
    obtain ⟨⟨x, rfl, n⟩, w2⟩ := w
    rcases (by simpa [Tm.kids] using h : k = nm x ∨ k = b) with e | e <;> subst e
    · exact n
    · exact w2
theorem WF.mono {N M : Str → Prop} (h : ∀ x, N x → M x) : ∀ {t : Tm}, WF N t → WF M t
  | nm x, w => h x w
  | un .half a, ⟨x, e, n⟩ => ⟨x, e, h x n⟩
  | un .mix a, w => WF.mono h (t := a) w
  | bi .pair a b, w => ⟨WF.mono h w.1, WF.mono h w.2⟩
  | bi .box a b, w => ⟨WF.mono h w.1, WF.mono h w.2⟩
  | bi .shut a b, ⟨⟨x, e, n⟩, w2⟩ => ⟨⟨x, e, h x n⟩, WF.mono h w2⟩
  | bi .mark a b, ⟨⟨x, e, n⟩, w2⟩ => ⟨⟨x, e, h x n⟩, WF.mono h w2⟩
theorem WF.map {N M : Str → Prop} {f : Str → Str} (h : ∀ x, N x → M (f x)) : ∀ {t : Tm}, WF N t → WF M (t.map f)
  | nm x, w => h x w
  | un .half a, ⟨x, e, n⟩ => ⟨f x, by subst e; rfl, h x n⟩
  | un .mix a, w => WF.map h (t := a) w
  | bi .pair a b, w => ⟨WF.map h w.1, WF.map h w.2⟩
  | bi .box a b, w => ⟨WF.map h w.1, WF.map h w.2⟩
  | bi .shut a b, ⟨⟨x, e, n⟩, w2⟩ => ⟨⟨f x, by subst e; rfl, h x n⟩, WF.map h w2⟩
  | bi .mark a b, ⟨⟨x, e, n⟩, w2⟩ => ⟨⟨f x, by subst e; rfl, h x n⟩, WF.map h w2⟩
theorem map_depth (f : Str → Str) : ∀ t : Tm, (t.map f).depth = t.depth
  | nm _ => rfl
  | un _ a => congrArg (· + 1) (map_depth f a)
  | bi _ a b => by show max (a.map f).depth (b.map f).depth + 1 = _; rw [map_depth f a, map_depth f b]; rfl
theorem map_kids (f : Str → Str) : ∀ t : Tm, (t.map f).kids = t.kids.map (Tm.map f)
  | nm _ => rfl
  | un _ _ => rfl
  | bi _ _ _ => rfl
theorem map_isNm (f : Str → Str) : ∀ t : Tm, (t.map f).isNm = t.isNm
  | nm _ => rfl
  | un _ _ => rfl
  | bi _ _ _ => rfl
theorem kid_depth : ∀ {t k : Tm}, k ∈ t.kids → k.depth + 1 ≤ t.depth
  | nm _, _, h => by cases h
  | un _ a, k, h => by
    have e : k = a := by simpa [Tm.kids] using h
    subst e; exact Nat.le_refl _
  | bi _ a b, k, h => by
    show k.depth + 1 ≤ max a.depth b.depth + 1
    rcases (by simpa [Tm.kids] using h : k = a ∨ k = b) with e | e <;> subst e <;> omega
theorem depth_pos : ∀ t : Tm, 1 ≤ t.depth
  | nm _ => Nat.le_refl _
  | un _ _ => Nat.le_add_left _ _
  | bi _ _ _ => Nat.le_add_left _ _
theorem size_le : ∀ (n : Nat) (t : Tm), t.depth ≤ n + 1 → t.size ≤ 2 ^ n
  | n, nm _, _ => Nat.one_le_two_pow
  | 0, un _ a, h => by have := depth_pos a; have h : a.depth + 1 ≤ 1 := h; omega
  | 0, bi _ a b, h => by have := depth_pos a; have h : max a.depth b.depth + 1 ≤ 1 := h; omega
  | n + 1, un _ a, h => by
    have h : a.depth + 1 ≤ n + 1 + 1 := h
    have := size_le n a (by omega)
    show a.size ≤ 2 ^ (n + 1)
    rw [Nat.pow_succ]; omega
  | n + 1, bi _ a b, h => by
    have h : max a.depth b.depth + 1 ≤ n + 1 + 1 := h
    have h1 := size_le n a (by omega)
    have h2 := size_le n b (by omega)
    show a.size + b.size ≤ 2 ^ (n + 1)
    rw [Nat.pow_succ]; omega
theorem map_inj {N : Str → Prop} {f : Str → Str} (hf : ∀ x y, N x → N y → f x = f y → x = y) : ∀ {t u : Tm}, WF N t → WF N u → t.map f = u.map f → t = u := by
  intro t
  induction t with
  | nm x =>
    intro u w1 w2 e
    cases u with
    | nm y => rw [hf x y w1 w2 (Tm.nm.inj e)]
    | un _ _ => cases e
    | bi _ _ _ => cases e
  | un g a ih =>
    intro u w1 w2 e
    cases u with
    | nm y => cases e
    | un g' a' =>
      have e' : Tm.un g (a.map f) = Tm.un g' (a'.map f) := e
      injection e' with e1 e2
      subst e1
      rw [ih (WF.kid w1 (by simp [Tm.kids])) (WF.kid w2 (by simp [Tm.kids])) e2]
    | bi _ _ _ => cases e
  | bi g a b iha ihb =>
    intro u w1 w2 e
    cases u with
    | nm y => cases e
    | un _ _ => cases e
    | bi g' a' b' =>
      have e' : Tm.bi g (a.map f) (b.map f) = Tm.bi g' (a'.map f) (b'.map f) := e
      injection e' with e1 e2 e3
      subst e1
      rw [iha (WF.kid w1 (by simp [Tm.kids])) (WF.kid w2 (by simp [Tm.kids])) e2, ihb (WF.kid w1 (by simp [Tm.kids])) (WF.kid w2 (by simp [Tm.kids])) e3]

/-! ### what is built -/
/-- the pieces out of which a term is built -/
def pieces : Tm → List Tm
  | nm _ => []
  | un _ a => [a]
  | bi .shut a b => [.un .half a, b]
  | bi _ a b => [a, b]
def built (F : List Tm) : Tm → Bool
  | nm x => decide (nm x ∈ F)
  | un g a => decide (un g a ∈ F) || built F a
  | bi .shut a b => decide (bi .shut a b ∈ F) || ((decide (un .half a ∈ F) || built F a) && built F b)
  | bi .pair a b => decide (bi .pair a b ∈ F) || (built F a && built F b)
  | bi .box a b => decide (bi .box a b ∈ F) || (built F a && built F b)
  | bi .mark a b => decide (bi .mark a b ∈ F) || (built F a && built F b)
theorem built_eq (F : List Tm) : ∀ t : Tm, built F t = (decide (t ∈ F) || (!t.isNm && (pieces t).all (built F)))
  | nm x => by simp [built, isNm]
  | un g a => by simp [built, isNm, pieces]
  | bi .shut a b => by simp [built, isNm, pieces]
  | bi .pair a b => by simp [built, isNm, pieces]
  | bi .box a b => by simp [built, isNm, pieces]
  | bi .mark a b => by simp [built, isNm, pieces]
theorem built_in {F : List Tm} {t : Tm} (h : t ∈ F) : built F t = true := by rw [built_eq, decide_eq_true h]; rfl
theorem built_mono {F G : List Tm} (h : ∀ x, x ∈ F → x ∈ G) : ∀ {t : Tm}, built F t = true → built G t = true
  | nm x, b => by simp only [built, decide_eq_true_eq] at b ⊢; exact h _ b
  | un g a, b => by
    simp only [built, Bool.or_eq_true, decide_eq_true_eq] at b ⊢
    exact b.imp (h _) (built_mono h)
  | bi .shut x y, b => by
    simp only [built, Bool.or_eq_true, Bool.and_eq_true, decide_eq_true_eq] at b ⊢
    exact b.imp (h _) fun c => ⟨c.1.imp (h _) (built_mono h), built_mono h c.2⟩
  | bi .pair x y, b => by
    simp only [built, Bool.or_eq_true, Bool.and_eq_true, decide_eq_true_eq] at b ⊢
    exact b.imp (h _) fun c => ⟨built_mono h c.1, built_mono h c.2⟩
  | bi .box x y, b => by
    simp only [built, Bool.or_eq_true, Bool.and_eq_true, decide_eq_true_eq] at b ⊢
    exact b.imp (h _) fun c => ⟨built_mono h c.1, built_mono h c.2⟩
  | bi .mark x y, b => by
    simp only [built, Bool.or_eq_true, Bool.and_eq_true, decide_eq_true_eq] at b ⊢
    exact b.imp (h _) fun c => ⟨built_mono h c.1, built_mono h c.2⟩
theorem built_same {F G : List Tm} (h : ∀ x, x ∈ F ↔ x ∈ G) (t : Tm) : built F t = built G t := by
  cases e : built F t with
  | true => rw [built_mono (fun x => (h x).mp) e]
  | false =>
    cases e' : built G t with
    | false => rfl
    | true => rw [built_mono (fun x => (h x).mpr) e'] at e; cases e

/-! ### opening -/
def openings (F : List Tm) : Tm → List Tm
  | bi .pair a b => [a, b]
  | bi .mark _ b => [b]
  | bi .box a b => if built F a = true then [b] else []
  | bi .shut a b => if built F a = true then [b] else []
  | _ => []
theorem openings_kid {F : List Tm} : ∀ {t u : Tm}, u ∈ openings F t → u ∈ t.kids
  | nm _, _, h => by cases h
  | un _ _, _, h => by cases h
  | bi .pair a b, u, h => h
  | bi .mark a b, u, h => by
    have e : u = b := by simpa [openings] using h
    subst e; simp [Tm.kids]
  | bi .box a b, u, h => by
    have h : u ∈ (if built F a = true then [b] else []) := h
    split at h
    · have e : u = b := by simpa using h
      subst e; simp [Tm.kids]
    · cases h
  | bi .shut a b, u, h => by
    have h : u ∈ (if built F a = true then [b] else []) := h
    split at h
    · have e : u = b := by simpa using h
      subst e; simp [Tm.kids]
    · cases h
theorem openings_mono {F G : List Tm} (hb : ∀ {a : Tm}, built F a = true → built G a = true) : ∀ {t u : Tm}, u ∈ openings F t → u ∈ openings G t
  | nm _, _, h => by cases h
  | un _ _, _, h => by cases h
  | bi .pair a b, u, h => h
  | bi .mark a b, u, h => h
  | bi .box a b, u, h => by
    have h : u ∈ (if built F a = true then [b] else []) := h
    show u ∈ (if built G a = true then [b] else [])
    split at h
    · rename_i q; rw [if_pos (hb q)]; exact h
    · cases h
  | bi .shut a b, u, h => by
    have h : u ∈ (if built F a = true then [b] else []) := h
    show u ∈ (if built G a = true then [b] else [])
    split at h
    · rename_i q; rw [if_pos (hb q)]; exact h
    · cases h
def ins (F : List Tm) (t : Tm) : List Tm := if t ∈ F then F else F ++ [t]
def opn (F : List Tm) (t : Tm) : List Tm := (openings F t).foldl ins F
def swp (F : List Tm) : List Tm := F.foldl opn F
def iter (k : Nat) (F : List Tm) : List Tm := match k with
  | 0 => F
  | k + 1 => iter k (swp F)
theorem mem_ins {F : List Tm} {t x : Tm} : x ∈ ins F t ↔ x ∈ F ∨ x = t := by
  unfold ins
  split
  · rename_i h
    exact ⟨.inl, fun q => q.elim id fun e => e ▸ h⟩
  · simp
theorem ins_ge (F : List Tm) (t : Tm) : F <+: ins F t := by
  unfold ins
  split
  · exact List.prefix_rfl
  · exact List.prefix_append _ _
theorem ins_nodup {F : List Tm} {t : Tm} (h : F.Nodup) : (ins F t).Nodup := by
  unfold ins
  split
  · exact h
  · rename_i q
    rw [List.nodup_append]
    refine ⟨h, by simp, fun a ha b hb => ?_⟩
    have e : b = t := by simpa using hb
    subst e
    exact fun e => q (e ▸ ha)
theorem foldl_ge {f : List Tm → Tm → List Tm} (hf : ∀ F t, F <+: f F t) : ∀ (l : List Tm) (F : List Tm), F <+: l.foldl f F
  | [], F => List.prefix_rfl
  | a :: r, F => (hf F a).trans (foldl_ge hf r _)
theorem opn_ge (F : List Tm) (t : Tm) : F <+: opn F t := foldl_ge ins_ge _ _
theorem swp_ge (F : List Tm) : F <+: swp F := foldl_ge opn_ge _ _
theorem iter_ge : ∀ (k : Nat) (F : List Tm), F <+: iter k F
  | 0, F => List.prefix_rfl
  | k + 1, F => (swp_ge F).trans (iter_ge k _)
theorem foldl_nodup {f : List Tm → Tm → List Tm} (hf : ∀ F t, F.Nodup → (f F t).Nodup) : ∀ (l : List Tm) (F : List Tm), F.Nodup → (l.foldl f F).Nodup
  | [], F, h => h
  | a :: r, F, h => foldl_nodup hf r _ (hf F a h)
theorem opn_nodup {F : List Tm} {t : Tm} (h : F.Nodup) : (opn F t).Nodup := foldl_nodup (fun _ _ => ins_nodup) _ _ h
theorem swp_nodup {F : List Tm} (h : F.Nodup) : (swp F).Nodup := foldl_nodup (fun _ _ => opn_nodup) _ _ h
theorem iter_nodup : ∀ (k : Nat) {F : List Tm}, F.Nodup → (iter k F).Nodup
  | 0, _, h => h
  | k + 1, _, h => iter_nodup k (swp_nodup h)
theorem foldl_ins_mem {x : Tm} : ∀ {l F : List Tm}, x ∈ l.foldl ins F ↔ x ∈ F ∨ x ∈ l
  | [], F => by simp
  | a :: r, F => by
    rw [List.foldl_cons, foldl_ins_mem, mem_ins, List.mem_cons, or_assoc]
theorem opn_mem {F : List Tm} {t x : Tm} : x ∈ opn F t ↔ x ∈ F ∨ x ∈ openings F t := foldl_ins_mem
/-- a set that is closed by kids -/
def KidsIn (U : List Tm) : Prop := ∀ t ∈ U, ∀ k ∈ t.kids, k ∈ U
theorem opn_sub {U F : List Tm} {t : Tm} (hU : KidsIn U) (hF : ∀ x ∈ F, x ∈ U) (ht : t ∈ U) : ∀ x ∈ opn F t, x ∈ U := fun x hx => by
  rcases opn_mem.mp hx with h | h
  · exact hF x h
  · exact hU t ht x (openings_kid h)
theorem foldl_opn_sub {U : List Tm} (hU : KidsIn U) : ∀ (l F : List Tm), (∀ x ∈ F, x ∈ U) → (∀ x ∈ l, x ∈ U) → ∀ x ∈ l.foldl opn F, x ∈ U
  | [], F, hF, _ => hF
  | a :: r, F, hF, hl => foldl_opn_sub hU r _ (opn_sub hU hF (hl a (by simp))) fun x hx => hl x (by simp [hx])
theorem swp_sub {U F : List Tm} (hU : KidsIn U) (hF : ∀ x ∈ F, x ∈ U) : ∀ x ∈ swp F, x ∈ U := foldl_opn_sub hU _ _ hF hF
theorem iter_sub {U : List Tm} (hU : KidsIn U) : ∀ (k : Nat) {F : List Tm}, (∀ x ∈ F, x ∈ U) → ∀ x ∈ iter k F, x ∈ U
  | 0, _, h => h
  | k + 1, _, h => iter_sub hU k (swp_sub hU h)
/-- closed: what is opened out of its terms stands in it -/
def Closed (F : List Tm) : Prop := ∀ t ∈ F, ∀ u ∈ openings F t, u ∈ F
theorem foldl_fix {F : List Tm} : ∀ (l G : List Tm), l.foldl opn G = F → F <+: G → (∀ t ∈ l, ∀ u ∈ openings F t, u ∈ F)
  | [], _, _, _ => fun _ h => nomatch h
  | a :: r, G, e, hp => by
    rw [List.foldl_cons] at e
    have g2 : opn G a <+: F := by rw [← e]; exact foldl_ge opn_ge _ _
    have g1 : G <+: opn G a := opn_ge G a
    have eG : G = F := List.IsPrefix.eq_of_length (g1.trans g2) (Nat.le_antisymm (g1.trans g2).length_le hp.length_le)
    subst eG
    intro t ht u hu
    rcases List.mem_cons.mp ht with q | q
    · subst q
      exact g2.subset (opn_mem.mpr (.inr hu))
    · exact foldl_fix r _ e g1 t q u hu
theorem closed_of {F : List Tm} (h : swp F = F) : Closed F := foldl_fix F F h List.prefix_rfl
theorem foldl_closed {F : List Tm} (h : Closed F) : ∀ l : List Tm, (∀ t ∈ l, t ∈ F) → l.foldl opn F = F
  | [], _ => rfl
  | a :: r, hl => by
    have e : opn F a = F := by
      have hs : ∀ (l : List Tm), (∀ t ∈ l, t ∈ F) → l.foldl ins F = F := by
        intro l
        induction l with
        | nil => intro _; rfl
        | cons b s ih =>
          intro q
          rw [List.foldl_cons, show ins F b = F from if_pos (q b (by simp))]
          exact ih fun t ht => q t (by simp [ht])
      exact hs _ fun t ht => h a (hl a (by simp)) t ht
    rw [List.foldl_cons, e]
    exact foldl_closed h r fun t ht => hl t (by simp [ht])
theorem swp_closed {F : List Tm} (h : Closed F) : swp F = F := foldl_closed h F fun _ q => q
/-- whatever is closed and holds the beginning holds all -/
theorem opn_least {F G : List Tm} {t : Tm} (hG : Closed G) (h : ∀ x ∈ F, x ∈ G) (ht : t ∈ G) : ∀ x ∈ opn F t, x ∈ G := fun x hx => by
  rcases opn_mem.mp hx with q | q
  · exact h x q
  · exact hG t ht x (openings_mono (fun {a} => built_mono h) q)
theorem foldl_least {G : List Tm} (hG : Closed G) : ∀ (l F : List Tm), (∀ x ∈ F, x ∈ G) → (∀ x ∈ l, x ∈ G) → ∀ x ∈ l.foldl opn F, x ∈ G
  | [], F, h, _ => h
  | a :: r, F, h, hl => foldl_least hG r _ (opn_least hG h (hl a (by simp))) fun x hx => hl x (by simp [hx])
theorem iter_least {G : List Tm} (hG : Closed G) : ∀ (k : Nat) {F : List Tm}, (∀ x ∈ F, x ∈ G) → ∀ x ∈ iter k F, x ∈ G
  | 0, _, h => h
  | k + 1, _, h => iter_least hG k (foldl_least hG _ _ h h)
theorem iter_add (j : Nat) : ∀ (k : Nat) (F : List Tm), iter (k + j) F = iter j (iter k F)
  | 0, F => by rw [Nat.zero_add]; rfl
  | k + 1, F => by rw [Nat.succ_add]; exact iter_add j k _
theorem iter_fix {F : List Tm} (h : swp F = F) : ∀ k : Nat, iter k F = F
  | 0 => rfl
  | k + 1 => by show iter k (swp F) = F; rw [h]; exact iter_fix h k
/-- the least closed set, as the program makes it -/
def start0 (hs : List Tm) : List Tm := hs.foldl ins []
def IsClo (F0 F : List Tm) : Prop := (∃ k, F = iter k F0) ∧ swp F = F
theorem IsClo.one {F0 F F' : List Tm} (h : IsClo F0 F) (h' : IsClo F0 F') : F = F' := by
  obtain ⟨⟨k, rfl⟩, e⟩ := h
  obtain ⟨⟨j, rfl⟩, e'⟩ := h'
  have a := iter_add j k F0
  have b := iter_add k j F0
  rw [iter_fix e] at a
  rw [iter_fix e', Nat.add_comm] at b
  rw [← a, ← b]
theorem IsClo.ge {F0 F : List Tm} (h : IsClo F0 F) : ∀ x ∈ F0, x ∈ F := by
  obtain ⟨⟨k, rfl⟩, _⟩ := h
  exact fun x hx => (iter_ge k F0).subset hx
theorem IsClo.closed {F0 F : List Tm} (h : IsClo F0 F) : Closed F := closed_of h.2
theorem IsClo.least {F0 F G : List Tm} (h : IsClo F0 F) (hG : Closed G) (h0 : ∀ x ∈ F0, x ∈ G) : ∀ x ∈ F, x ∈ G := by
  obtain ⟨⟨k, rfl⟩, _⟩ := h
  exact iter_least hG k h0
theorem IsClo.nodup {F0 F : List Tm} (h : IsClo F0 F) (h0 : F0.Nodup) : F.Nodup := by
  obtain ⟨⟨k, rfl⟩, _⟩ := h
  exact iter_nodup k h0
theorem IsClo.sub {U F0 F : List Tm} (h : IsClo F0 F) (hU : KidsIn U) (h0 : ∀ x ∈ F0, x ∈ U) : ∀ x ∈ F, x ∈ U := by
  obtain ⟨⟨k, rfl⟩, _⟩ := h
  exact iter_sub hU k h0
theorem start0_mem {hs : List Tm} {x : Tm} : x ∈ start0 hs ↔ x ∈ hs := by
  unfold start0
  rw [foldl_ins_mem]
  simp
theorem start0_nodup (hs : List Tm) : (start0 hs).Nodup := foldl_nodup (fun _ _ => ins_nodup) _ _ List.nodup_nil
/-- hearings of the same terms have the same least closed set -/
theorem clo_same {hs hs' F F' : List Tm} (h : IsClo (start0 hs) F) (h' : IsClo (start0 hs') F') (e : ∀ x, x ∈ hs ↔ x ∈ hs') : ∀ x, x ∈ F ↔ x ∈ F' := fun x =>
  ⟨h.least h'.closed (fun y hy => h'.ge y (start0_mem.mpr ((e y).mp (start0_mem.mp hy)))) x, h'.least h.closed (fun y hy => h.ge y (start0_mem.mpr ((e y).mpr (start0_mem.mp hy)))) x⟩

/-! ### renaming goes along -/
section
variable {N : Str → Prop} {f : Str → Str}
/-- f keeps the names of N apart -/
def InjOn (N : Str → Prop) (f : Str → Str) : Prop := ∀ x y, N x → N y → f x = f y → x = y
def All (N : Str → Prop) (F : List Tm) : Prop := ∀ t ∈ F, WF N t
theorem mem_map_iff (hf : InjOn N f) {F : List Tm} {t : Tm} (hF : All N F) (ht : WF N t) : t.map f ∈ F.map (Tm.map f) ↔ t ∈ F := by
  constructor
  · intro h
    obtain ⟨u, hu, e⟩ := List.mem_map.mp h
    rw [← map_inj hf (hF u hu) ht e]
    exact hu
  · exact fun h => List.mem_map.mpr ⟨t, h, rfl⟩
theorem built_map (hf : InjOn N f) {F : List Tm} (hF : All N F) : ∀ {t : Tm}, WF N t → built (F.map (Tm.map f)) (t.map f) = built F t := by
  have m : ∀ {t : Tm}, WF N t → decide (t.map f ∈ F.map (Tm.map f)) = decide (t ∈ F) := fun ht => decide_eq_decide.mpr (mem_map_iff hf hF ht)
  intro t
  induction t with
  | nm x => intro w; exact m (t := nm x) w
  | un g a ih =>
    intro w
    have wa : WF N a := WF.kid w (by simp [Tm.kids])
    show (decide ((un g a).map f ∈ F.map (Tm.map f)) || built (F.map (Tm.map f)) (a.map f)) = _
    rw [m w, ih wa]; rfl
  | bi g a b iha ihb =>
    intro w
    have wa : WF N a := WF.kid w (by simp [Tm.kids])
    have wb : WF N b := WF.kid w (by simp [Tm.kids])
    cases g with
    | shut =>
      have wh : WF N (un .half a) := w.1
      show (decide ((bi .shut a b).map f ∈ F.map (Tm.map f)) || ((decide ((un .half a).map f ∈ F.map (Tm.map f)) || built (F.map (Tm.map f)) (a.map f)) && built (F.map (Tm.map f)) (b.map f))) = _
      rw [m w, m wh, iha wa, ihb wb]; rfl
    | pair =>
      show (decide ((bi .pair a b).map f ∈ F.map (Tm.map f)) || (built (F.map (Tm.map f)) (a.map f) && built (F.map (Tm.map f)) (b.map f))) = _
      rw [m w, iha wa, ihb wb]; rfl
    | box =>
      show (decide ((bi .box a b).map f ∈ F.map (Tm.map f)) || (built (F.map (Tm.map f)) (a.map f) && built (F.map (Tm.map f)) (b.map f))) = _
      rw [m w, iha wa, ihb wb]; rfl
    | mark =>
      show (decide ((bi .mark a b).map f ∈ F.map (Tm.map f)) || (built (F.map (Tm.map f)) (a.map f) && built (F.map (Tm.map f)) (b.map f))) = _
      rw [m w, iha wa, ihb wb]; rfl
theorem openings_map (hf : InjOn N f) {F : List Tm} (hF : All N F) : ∀ {t : Tm}, WF N t → openings (F.map (Tm.map f)) (t.map f) = (openings F t).map (Tm.map f)
  | nm _, _ => rfl
  | un _ _, _ => rfl
  | bi .pair _ _, _ => rfl
  | bi .mark _ _, _ => rfl
  | bi .box a b, w => by
    show (if built (F.map (Tm.map f)) (a.map f) = true then [b.map f] else []) = List.map (Tm.map f) (if built F a = true then [b] else [])
    rw [built_map hf hF (WF.kid w (by simp [Tm.kids]))]
    split <;> rfl
  | bi .shut a b, w => by
    show (if built (F.map (Tm.map f)) (a.map f) = true then [b.map f] else []) = List.map (Tm.map f) (if built F a = true then [b] else [])
    rw [built_map hf hF (WF.kid w (by simp [Tm.kids]))]
    split <;> rfl
theorem all_ins {F : List Tm} {t : Tm} (hF : All N F) (ht : WF N t) : All N (ins F t) := fun x hx => (mem_ins.mp hx).elim (hF x) fun e => e ▸ ht
theorem ins_map (hf : InjOn N f) {F : List Tm} {t : Tm} (hF : All N F) (ht : WF N t) : ins (F.map (Tm.map f)) (t.map f) = (ins F t).map (Tm.map f) := by
  unfold ins
  by_cases h : t ∈ F
  · rw [if_pos h, if_pos ((mem_map_iff hf hF ht).mpr h)]
  · rw [if_neg h, if_neg (fun q => h ((mem_map_iff hf hF ht).mp q))]
    simp
theorem foldl_ins_map (hf : InjOn N f) : ∀ (l F : List Tm), All N F → All N l → (l.map (Tm.map f)).foldl ins (F.map (Tm.map f)) = (l.foldl ins F).map (Tm.map f) ∧ All N (l.foldl ins F)
  | [], F, hF, _ => ⟨rfl, hF⟩
  | a :: r, F, hF, hl => by
    have wa : WF N a := hl a (by simp)
    rw [List.map_cons, List.foldl_cons, List.foldl_cons, ins_map hf hF wa]
    exact foldl_ins_map hf r _ (all_ins hF wa) fun t ht => hl t (by simp [ht])
theorem opn_map (hf : InjOn N f) {F : List Tm} {t : Tm} (hF : All N F) (ht : WF N t) : opn (F.map (Tm.map f)) (t.map f) = (opn F t).map (Tm.map f) ∧ All N (opn F t) := by
  unfold opn
  rw [openings_map hf hF ht]
  exact foldl_ins_map hf _ _ hF fun u hu => WF.kid ht (openings_kid hu)
theorem foldl_opn_map (hf : InjOn N f) : ∀ (l F : List Tm), All N F → All N l → (l.map (Tm.map f)).foldl opn (F.map (Tm.map f)) = (l.foldl opn F).map (Tm.map f) ∧ All N (l.foldl opn F)
  | [], F, hF, _ => ⟨rfl, hF⟩
  | a :: r, F, hF, hl => by
    have wa : WF N a := hl a (by simp)
    rw [List.map_cons, List.foldl_cons, List.foldl_cons, (opn_map hf hF wa).1]
    exact foldl_opn_map hf r _ (opn_map hf hF wa).2 fun t ht => hl t (by simp [ht])
theorem swp_map (hf : InjOn N f) {F : List Tm} (hF : All N F) : swp (F.map (Tm.map f)) = (swp F).map (Tm.map f) ∧ All N (swp F) := foldl_opn_map hf _ _ hF hF
theorem iter_map (hf : InjOn N f) : ∀ (k : Nat) {F : List Tm}, All N F → iter k (F.map (Tm.map f)) = (iter k F).map (Tm.map f) ∧ All N (iter k F)
  | 0, _, hF => ⟨rfl, hF⟩
  | k + 1, F, hF => by
    show iter k (swp (F.map (Tm.map f))) = (iter k (swp F)).map (Tm.map f) ∧ All N (iter k (swp F))
    rw [(swp_map hf hF).1]
    exact iter_map hf k (swp_map hf hF).2
theorem start0_map (hf : InjOn N f) {hs : List Tm} (h : All N hs) : start0 (hs.map (Tm.map f)) = (start0 hs).map (Tm.map f) := (foldl_ins_map hf hs [] (fun _ q => nomatch q) h).1
theorem start0_all {hs : List Tm} (h : All N hs) : All N (start0 hs) := fun t ht => h t (start0_mem.mp ht)
theorem IsClo.all {F0 F : List Tm} (h : IsClo F0 F) (h0 : All N F0) : All N F := by
  obtain ⟨⟨k, rfl⟩, _⟩ := h
  exact (iter_map (N := N) (f := id) (fun _ _ _ _ e => e) k h0).2
theorem IsClo.map (hf : InjOn N f) {F0 F : List Tm} (h : IsClo F0 F) (h0 : All N F0) : IsClo (F0.map (Tm.map f)) (F.map (Tm.map f)) := by
  have hF := h.all h0
  obtain ⟨⟨k, rfl⟩, e⟩ := h
  refine ⟨⟨k, (iter_map hf k h0).1.symm⟩, ?_⟩
  rw [(swp_map hf hF).1, e]
theorem clo_map (hf : InjOn N f) {hs F F' : List Tm} (h : IsClo (start0 hs) F) (hN : All N hs) (h' : IsClo (start0 (hs.map (Tm.map f))) F') : F' = F.map (Tm.map f) := by
  rw [start0_map hf hN] at h'
  exact h'.one (h.map hf (start0_all hN))
end
end Kt
/-! Wordings: a term's text tells the term. -/
namespace Kt
open PySem
open Tm

def Low (c : Nat) : Prop := 97 ≤ c ∧ c ≤ 122
/-- a name: one to eight letters -/
def NameOk (x : Str) : Prop := 1 ≤ x.length ∧ x.length ≤ 8 ∧ ∀ c ∈ x.cps.toList, Low c
/-- the wording, as codes -/
def spl : Tm → List Nat
  | nm x => x.cps.toList
  | un .half a => [104, 97, 108, 102, 32] ++ spl a
  | un .mix a => [109, 105, 120, 40] ++ spl a ++ [41]
  | bi .pair a b => [40] ++ spl a ++ [32, 38, 32] ++ spl b ++ [41]
  | bi .box a b => [91] ++ spl b ++ [93] ++ (if a.isNm = true then spl a else [60] ++ spl a ++ [62])
  | bi .shut a b => [123] ++ spl b ++ [125] ++ spl a
  | bi .mark a b => [40] ++ spl b ++ [33] ++ spl a ++ [41]
/-- what may stand behind a term -/
def Cont (r : List Nat) : Prop := r = [] ∨ (∃ c r', r = c :: r' ∧ (c = 41 ∨ c = 93 ∨ c = 33 ∨ c = 125 ∨ c = 62)) ∨ ∃ r', r = 32 :: 38 :: r'
/-- no letter stands at the head -/
def NoLow (r : List Nat) : Prop := ∀ c r', r = c :: r' → ¬ Low c
theorem Cont.noLow {r : List Nat} (h : Cont r) : NoLow r := by
  rintro c r' rfl l
  rcases h with h | ⟨c', r'', h, q⟩ | ⟨r'', h⟩
  · cases h
  · cases h
    unfold Low at l
    omega
  · cases h
    unfold Low at l
    omega
theorem runs_eq : ∀ {xs ys r s : List Nat}, (∀ c ∈ xs, Low c) → (∀ c ∈ ys, Low c) → NoLow r → NoLow s → xs ++ r = ys ++ s → xs = ys ∧ r = s
  | [], [], r, s, _, _, _, _, e => ⟨rfl, e⟩
  | [], y :: ys, r, s, _, hy, hr, _, e => by
    have e' : r = y :: (ys ++ s) := e
    exact absurd (hy y (by simp)) (hr y _ e')
  | x :: xs, [], r, s, hx, _, _, hs, e => by
    have e' : s = x :: (xs ++ r) := e.symm
    exact absurd (hx x (by simp)) (hs x _ e')
  | x :: xs, y :: ys, r, s, hx, hy, hr, hs, e => by
    have e' : x :: (xs ++ r) = y :: (ys ++ s) := e
    injection e' with e1 e2
    obtain ⟨h1, h2⟩ := runs_eq (fun c h => hx c (by simp [h])) (fun c h => hy c (by simp [h])) hr hs e2
    exact ⟨by rw [e1, h1], h2⟩
theorem str_ext {x y : Str} (h : x.cps.toList = y.cps.toList) : x = y := by
  obtain ⟨⟨a⟩⟩ := x
  obtain ⟨⟨b⟩⟩ := y
  have h : a = b := h
  rw [h]
theorem name_ne {x : Str} (h : NameOk x) : ∃ c r, x.cps.toList = c :: r ∧ Low c := by
  obtain ⟨h1, _, h3⟩ := h
  cases e : x.cps.toList with
  | nil =>
    have : x.cps.toList.length = 0 := by rw [e]; rfl
    rw [Array.length_toList] at this
    have h1 : 1 ≤ x.cps.size := h1
    omega
  | cons c r => exact ⟨c, r, rfl, h3 c (by rw [e]; simp)⟩
theorem noLow_cons {c : Nat} {r : List Nat} (h : ¬ Low c) : NoLow (c :: r) := by
  rintro c' r' e l
  cases e
  exact h l
theorem cont_c {c : Nat} {r : List Nat} (h : c = 41 ∨ c = 93 ∨ c = 33 ∨ c = 125 ∨ c = 62) : Cont (c :: r) := .inr (.inl ⟨c, r, rfl, h⟩)
theorem cont_a {r : List Nat} : Cont (32 :: 38 :: r) := .inr (.inr ⟨r, rfl⟩)
section
variable {N : Str → Prop} (hN : ∀ x, N x → NameOk x)
include hN
theorem name_half {x : Str} {a : Tm} {r s : List Nat} (hx : N x) (ha : WF N (un .half a)) (hr : Cont r) (e : x.cps.toList ++ r = [104, 97, 108, 102, 32] ++ spl a ++ s) : False := by
  obtain ⟨y, rfl, hy⟩ := ha
  have e' : x.cps.toList ++ r = [104, 97, 108, 102] ++ (32 :: (y.cps.toList ++ s)) := by simpa [spl] using e
  obtain ⟨_, e2⟩ := runs_eq (hN x hx).2.2 (by intro c h; simp at h; unfold Low; omega) hr.noLow (noLow_cons (by unfold Low; omega)) e'
  obtain ⟨c, t, ey, lc⟩ := name_ne (hN y hy)
  rw [ey] at e2
  rcases hr with h | ⟨c', r'', h, q⟩ | ⟨r'', h⟩
  · rw [h] at e2; cases e2
  · rw [h] at e2
    injection e2 with e3 _
    omega
  · rw [h] at e2
    injection e2 with _ e3
    injection e3 with e4 _
    unfold Low at lc
    omega
theorem name_mix {x : Str} {r s : List Nat} {l : List Nat} (hx : N x) (hr : Cont r) (e : x.cps.toList ++ r = [109, 105, 120] ++ (40 :: s)) : False := by
  obtain ⟨_, e2⟩ := runs_eq (hN x hx).2.2 (by intro c h; simp at h; unfold Low; omega) hr.noLow (noLow_cons (by unfold Low; omega)) e
  rcases hr with h | ⟨c', r'', h, q⟩ | ⟨r'', h⟩
  · rw [h] at e2; cases e2
  · rw [h] at e2
    injection e2 with e3 _
    omega
  · rw [h] at e2
    injection e2 with e3 _
    omega
theorem name_sign {x : Str} {r s : List Nat} {c : Nat} (hx : N x) (hc : ¬ Low c) (e : x.cps.toList ++ r = c :: s) : False := by
  obtain ⟨d, t, ex, l⟩ := name_ne (hN x hx)
  rw [ex] at e
  have e' : d :: (t ++ r) = c :: s := e
  injection e' with e1 _
  exact hc (e1 ▸ l)
theorem spl_inj : ∀ {t u : Tm} {r s : List Nat}, WF N t → WF N u → Cont r → Cont s → spl t ++ r = spl u ++ s → t = u ∧ r = s := by
  intro t
  induction t with
  | nm x =>
    intro u r s wt wu hr hs e
    have hx : N x := wt
    have e : x.cps.toList ++ r = spl u ++ s := e
    cases u with
    | nm y =>
      obtain ⟨h1, h2⟩ := runs_eq (hN x hx).2.2 (hN y wu).2.2 hr.noLow hs.noLow e
      exact ⟨by rw [str_ext h1], h2⟩
    | un g a =>
      cases g with
      | half => exact (name_half hN hx wu hr e).elim
      | mix => exact (name_mix (l := []) hN hx hr (s := spl a ++ 41 :: s) (by simpa [spl] using e)).elim
    | bi g a b =>
      cases g with
      | pair => exact (name_sign hN hx (c := 40) (by unfold Low; omega) (s := spl a ++ (32 :: 38 :: 32 :: (spl b ++ 41 :: s))) (by simpa [spl] using e)).elim
      | mark => exact (name_sign hN hx (c := 40) (by unfold Low; omega) (s := spl b ++ (33 :: (spl a ++ 41 :: s))) (by simpa [spl] using e)).elim
      | box => exact (name_sign hN hx (c := 91) (by unfold Low; omega) (s := spl b ++ (93 :: ((if a.isNm = true then spl a else [60] ++ spl a ++ [62]) ++ s))) (by simpa [spl] using e)).elim
      | shut => exact (name_sign hN hx (c := 123) (by unfold Low; omega) (s := spl b ++ (125 :: (spl a ++ s))) (by simpa [spl] using e)).elim
  | un g a ih =>
    intro u r s wt wu hr hs e
    cases u with
    | nm y =>
      cases g with
      | half => exact (name_half hN (show N y from wu) wt hs e.symm).elim
      | mix => exact (name_mix (l := []) hN (show N y from wu) hs (s := spl a ++ 41 :: r) (by simpa [spl] using e.symm)).elim
    | un g' a' =>
      cases g <;> cases g'
      · have e' : spl a ++ r = spl a' ++ s := by simpa [spl] using e
        obtain ⟨h1, h2⟩ := ih (WF.kid wt (by simp [Tm.kids])) (WF.kid wu (by simp [Tm.kids])) hr hs e'
        exact ⟨by rw [h1], h2⟩
      · have e' : 104 :: ([97, 108, 102, 32] ++ spl a ++ r) = 109 :: ([105, 120, 40] ++ spl a' ++ [41] ++ s) := by simpa [spl] using e
        injection e' with e1 _
        omega
      · have e' : 109 :: ([105, 120, 40] ++ spl a ++ [41] ++ r) = 104 :: ([97, 108, 102, 32] ++ spl a' ++ s) := by simpa [spl] using e
        injection e' with e1 _
        omega
      · have e' : spl a ++ (41 :: r) = spl a' ++ (41 :: s) := by simpa [spl] using e
        obtain ⟨h1, h2⟩ := ih (WF.kid wt (by simp [Tm.kids])) (WF.kid wu (by simp [Tm.kids])) (cont_c (by omega)) (cont_c (by omega)) e'
        injection h2 with _ h3
        exact ⟨by rw [h1], h3⟩
    | bi g' a' b' =>
      have hd : ∀ g' : G2, ∃ c l, spl (bi g' a' b') = c :: l ∧ (c = 40 ∨ c = 91 ∨ c = 123) := by
        intro g'
        cases g' with
        | pair => exact ⟨_, _, rfl, by omega⟩
        | box => exact ⟨_, _, rfl, by omega⟩
        | shut => exact ⟨_, _, rfl, by omega⟩
        | mark => exact ⟨_, _, rfl, by omega⟩
      obtain ⟨c, l, e1, hc⟩ := hd g'
      rw [e1] at e
      cases g with
      | half =>
        have e' : 104 :: ([97, 108, 102, 32] ++ spl a ++ r) = c :: (l ++ s) := by simpa [spl] using e
        injection e' with e2 _
        omega
      | mix =>
        have e' : 109 :: ([105, 120, 40] ++ spl a ++ [41] ++ r) = c :: (l ++ s) := by simpa [spl] using e
        injection e' with e2 _
        omega
  | bi g a b iha ihb =>
    intro u r s wt wu hr hs e
    have wa : WF N a := WF.kid wt (by simp [Tm.kids])
    have wb : WF N b := WF.kid wt (by simp [Tm.kids])
    cases u with
    | nm y =>
      have hy : N y := wu
      have e := e.symm
      cases g with
      | pair => exact (name_sign hN hy (c := 40) (by unfold Low; omega) (s := spl a ++ (32 :: 38 :: 32 :: (spl b ++ 41 :: r))) (by simpa [spl] using e)).elim
      | mark => exact (name_sign hN hy (c := 40) (by unfold Low; omega) (s := spl b ++ (33 :: (spl a ++ 41 :: r))) (by simpa [spl] using e)).elim
      | box => exact (name_sign hN hy (c := 91) (by unfold Low; omega) (s := spl b ++ (93 :: ((if a.isNm = true then spl a else [60] ++ spl a ++ [62]) ++ r))) (by simpa [spl] using e)).elim
      | shut => exact (name_sign hN hy (c := 123) (by unfold Low; omega) (s := spl b ++ (125 :: (spl a ++ r))) (by simpa [spl] using e)).elim
    | un g' a' =>
      have hd : ∀ g : G2, ∃ c l, spl (bi g a b) = c :: l ∧ (c = 40 ∨ c = 91 ∨ c = 123) := by
        intro g
        cases g with
        | pair => exact ⟨_, _, rfl, by omega⟩
        | box => exact ⟨_, _, rfl, by omega⟩
        | shut => exact ⟨_, _, rfl, by omega⟩
        | mark => exact ⟨_, _, rfl, by omega⟩
      obtain ⟨c, l, e1, hc⟩ := hd g
      rw [e1] at e
      cases g' with
      | half =>
        have e' : c :: (l ++ r) = 104 :: ([97, 108, 102, 32] ++ spl a' ++ s) := by simpa [spl] using e
        injection e' with e2 _
        omega
      | mix =>
        have e' : c :: (l ++ r) = 109 :: ([105, 120, 40] ++ spl a' ++ [41] ++ s) := by simpa [spl] using e
        injection e' with e2 _
        omega
    | bi g' a' b' =>
      have wa' : WF N a' := WF.kid wu (by simp [Tm.kids])
      have wb' : WF N b' := WF.kid wu (by simp [Tm.kids])
      cases g <;> cases g'
      case pair.pair =>
        have e' : spl a ++ (32 :: 38 :: 32 :: (spl b ++ 41 :: r)) = spl a' ++ (32 :: 38 :: 32 :: (spl b' ++ 41 :: s)) := by simpa [spl] using e
        obtain ⟨h1, h2⟩ := iha wa wa' cont_a cont_a e'
        injection h2 with _ h2
        injection h2 with _ h2
        injection h2 with _ h2
        obtain ⟨h3, h4⟩ := ihb wb wb' (cont_c (by omega)) (cont_c (by omega)) h2
        injection h4 with _ h4
        exact ⟨by rw [h1, h3], h4⟩
      case pair.mark =>
        have e' : spl a ++ (32 :: 38 :: 32 :: (spl b ++ 41 :: r)) = spl b' ++ (33 :: (spl a' ++ 41 :: s)) := by simpa [spl] using e
        obtain ⟨_, h2⟩ := iha wa wb' cont_a (cont_c (by omega)) e'
        injection h2 with h2 _
        omega
      case mark.pair =>
        have e' : spl b ++ (33 :: (spl a ++ 41 :: r)) = spl a' ++ (32 :: 38 :: 32 :: (spl b' ++ 41 :: s)) := by simpa [spl] using e
        obtain ⟨_, h2⟩ := ihb wb wa' (cont_c (by omega)) cont_a e'
        injection h2 with h2 _
        omega
      case mark.mark =>
        have e' : spl b ++ (33 :: (spl a ++ 41 :: r)) = spl b' ++ (33 :: (spl a' ++ 41 :: s)) := by simpa [spl] using e
        obtain ⟨h1, h2⟩ := ihb wb wb' (cont_c (by omega)) (cont_c (by omega)) e'
        injection h2 with _ h2
        obtain ⟨h3, h4⟩ := iha wa wa' (cont_c (by omega)) (cont_c (by omega)) h2
        injection h4 with _ h4
        exact ⟨by rw [h1, h3], h4⟩
      case shut.shut =>
        have e' : spl b ++ (125 :: (spl a ++ r)) = spl b' ++ (125 :: (spl a' ++ s)) := by simpa [spl] using e
        obtain ⟨h1, h2⟩ := ihb wb wb' (cont_c (by omega)) (cont_c (by omega)) e'
        injection h2 with _ h2
        obtain ⟨h3, h4⟩ := iha wa wa' hr hs h2
        exact ⟨by rw [h1, h3], h4⟩
      case box.box =>
        have e' : spl b ++ (93 :: ((if a.isNm = true then spl a else [60] ++ spl a ++ [62]) ++ r)) = spl b' ++ (93 :: ((if a'.isNm = true then spl a' else [60] ++ spl a' ++ [62]) ++ s)) := by simpa [spl] using e
        obtain ⟨h1, h2⟩ := ihb wb wb' (cont_c (by omega)) (cont_c (by omega)) e'
        injection h2 with _ h2
        have nl : ∀ {c : Tm} {z : List Nat} {y : List Nat}, WF N c → c.isNm = true → spl c ++ z = 60 :: y → False := by
          intro c z y w q e
          cases c with
          | nm x => exact name_sign hN (show N x from w) (c := 60) (by unfold Low; omega) e
          | un _ _ => cases q
          | bi _ _ _ => cases q
        by_cases c1 : a.isNm = true <;> by_cases c2 : a'.isNm = true
        · rw [if_pos c1, if_pos c2] at h2
          obtain ⟨h3, h4⟩ := iha wa wa' hr hs h2
          exact ⟨by rw [h1, h3], h4⟩
        · rw [if_pos c1, if_neg c2] at h2
          exact (nl (y := spl a' ++ 62 :: s) wa c1 (by simpa using h2)).elim
        · rw [if_neg c1, if_pos c2] at h2
          exact (nl (y := spl a ++ 62 :: r) wa' c2 (by simpa using h2.symm)).elim
        · rw [if_neg c1, if_neg c2] at h2
          have h2' : spl a ++ (62 :: r) = spl a' ++ (62 :: s) := by simpa using h2
          obtain ⟨h3, h4⟩ := iha wa wa' (cont_c (by omega)) (cont_c (by omega)) h2'
          injection h4 with _ h4
          exact ⟨by rw [h1, h3], h4⟩
      case pair.box =>
        have e' : 40 :: (spl a ++ [32, 38, 32] ++ spl b ++ [41] ++ r) = 91 :: (spl b' ++ [93] ++ (if a'.isNm = true then spl a' else [60] ++ spl a' ++ [62]) ++ s) := by simpa [spl] using e
        injection e' with e2 _; omega
      case pair.shut =>
        have e' : 40 :: (spl a ++ [32, 38, 32] ++ spl b ++ [41] ++ r) = 123 :: (spl b' ++ [125] ++ spl a' ++ s) := by simpa [spl] using e
        injection e' with e2 _; omega
      case box.pair =>
        have e' : 91 :: (spl b ++ [93] ++ (if a.isNm = true then spl a else [60] ++ spl a ++ [62]) ++ r) = 40 :: (spl a' ++ [32, 38, 32] ++ spl b' ++ [41] ++ s) := by simpa [spl] using e
        injection e' with e2 _; omega
      case box.shut =>
        have e' : 91 :: (spl b ++ [93] ++ (if a.isNm = true then spl a else [60] ++ spl a ++ [62]) ++ r) = 123 :: (spl b' ++ [125] ++ spl a' ++ s) := by simpa [spl] using e
        injection e' with e2 _; omega
      case box.mark =>
        have e' : 91 :: (spl b ++ [93] ++ (if a.isNm = true then spl a else [60] ++ spl a ++ [62]) ++ r) = 40 :: (spl b' ++ [33] ++ spl a' ++ [41] ++ s) := by simpa [spl] using e
        injection e' with e2 _; omega
      case shut.pair =>
        have e' : 123 :: (spl b ++ [125] ++ spl a ++ r) = 40 :: (spl a' ++ [32, 38, 32] ++ spl b' ++ [41] ++ s) := by simpa [spl] using e
        injection e' with e2 _; omega
      case shut.box =>
        have e' : 123 :: (spl b ++ [125] ++ spl a ++ r) = 91 :: (spl b' ++ [93] ++ (if a'.isNm = true then spl a' else [60] ++ spl a' ++ [62]) ++ s) := by simpa [spl] using e
        injection e' with e2 _; omega
      case shut.mark =>
        have e' : 123 :: (spl b ++ [125] ++ spl a ++ r) = 40 :: (spl b' ++ [33] ++ spl a' ++ [41] ++ s) := by simpa [spl] using e
        injection e' with e2 _; omega
      case mark.box =>
        have e' : 40 :: (spl b ++ [33] ++ spl a ++ [41] ++ r) = 91 :: (spl b' ++ [93] ++ (if a'.isNm = true then spl a' else [60] ++ spl a' ++ [62]) ++ s) := by simpa [spl] using e
        injection e' with e2 _; omega
      case mark.shut =>
        have e' : 40 :: (spl b ++ [33] ++ spl a ++ [41] ++ r) = 123 :: (spl b' ++ [125] ++ spl a' ++ s) := by simpa [spl] using e
        injection e' with e2 _; omega
end
/-- the wording as a text -/
def sp (t : Tm) : Str := ⟨(spl t).toArray⟩
theorem sp_inj {N : Str → Prop} (hN : ∀ x, N x → NameOk x) {t u : Tm} (wt : WF N t) (wu : WF N u) (e : sp t = sp u) : t = u := by
  have e' : spl t = spl u := by
    have e1 : (spl t).toArray = (spl u).toArray := congrArg Str.cps e
    simpa using congrArg Array.toList e1
  exact (spl_inj hN (r := []) (s := []) wt wu (.inl rfl) (.inl rfl) (by rw [e'])).1
theorem sp_length (t : Tm) : (sp t).length = (spl t).length := by
  show (spl t).toArray.size = _
  simp
theorem spl_len {N : Str → Prop} (hN : ∀ x, N x → NameOk x) : ∀ (n : Nat) {t : Tm}, WF N t → t.depth ≤ n + 1 → (spl t).length + 5 ≤ 13 * 2 ^ n
  | n, nm x, w, _ => by
    have h := (hN x w).2.1
    have e : (spl (nm x)).length = x.length := Array.length_toList
    have p := Nat.one_le_two_pow (n := n)
    omega
  | 0, un _ a, _, h => by have := depth_pos a; have h : a.depth + 1 ≤ 1 := h; omega
  | 0, bi _ a b, _, h => by have := depth_pos a; have h : max a.depth b.depth + 1 ≤ 1 := h; omega
  | n + 1, un g a, w, h => by
    have h : a.depth + 1 ≤ n + 1 + 1 := h
    have ih := spl_len hN n (t := a) (WF.kid w (by simp [Tm.kids])) (by omega)
    have p := Nat.pow_succ 2 n
    cases g <;> simp only [spl, List.length_append, List.length_cons, List.length_nil] <;> omega
  | n + 1, bi g a b, w, h => by
    have h : max a.depth b.depth + 1 ≤ n + 1 + 1 := h
    have iha := spl_len hN n (t := a) (WF.kid w (by simp [Tm.kids])) (by omega)
    have ihb := spl_len hN n (t := b) (WF.kid w (by simp [Tm.kids])) (by omega)
    have p := Nat.pow_succ 2 n
    cases g
    case box =>
      simp only [spl]
      split <;> simp only [List.length_append, List.length_cons, List.length_nil] <;> omega
    all_goals (simp only [spl, List.length_append, List.length_cons, List.length_nil]; omega)
end Kt
/-! Rows ascending by wordings; recipes. -/
namespace Kt
open PySem PySem.Spec PyProof.Rows
open Tm

def leS (a b : Str) : Prop := ltCps b.cps.toList a.cps.toList = false
theorem lt_irr : ∀ a : List Nat, ltCps a a = false
  | [] => rfl
  | a :: r => by simp [ltCps, lt_irr r]
theorem lt_anti : ∀ a b : List Nat, ltCps a b = false → ltCps b a = false → a = b
  | [], [], _, _ => rfl
  | [], _ :: _, h, _ => by simp [ltCps] at h
  | _ :: _, [], _, h => by simp [ltCps] at h
  | a :: r, b :: s, h1, h2 => by
    simp only [ltCps, Bool.or_eq_false_iff, Bool.and_eq_false_iff, decide_eq_false_iff_not, beq_eq_false_iff_ne, ne_eq] at h1 h2
    have e : a = b := by omega
    subst e
    rw [lt_anti r s (h1.2.resolve_left (fun q => q rfl)) (h2.2.resolve_left (fun q => q rfl))]
theorem lt_trans' : ∀ a b c : List Nat, ltCps b a = false → ltCps c b = false → ltCps c a = false
  | [], _, [], _, _ => rfl
  | [], _, _ :: _, _, _ => by simp [ltCps]
  | _ :: _, [], _, h, _ => by simp [ltCps] at h
  | _ :: _, _ :: _, [], _, h => by simp [ltCps] at h
  | a :: r, b :: s, c :: t, h1, h2 => by
    simp only [ltCps, Bool.or_eq_false_iff, Bool.and_eq_false_iff, decide_eq_false_iff_not, beq_eq_false_iff_ne, ne_eq] at h1 h2 ⊢
    refine ⟨by omega, ?_⟩
    by_cases e : c = a
    · right
      have e1 : b = a := by omega
      subst e1
      subst e
      exact lt_trans' r s t (h1.2.resolve_left (fun q => q rfl)) (h2.2.resolve_left (fun q => q rfl))
    · exact .inl e
theorem rising_pw : ∀ (l : List Str) (p : Str), risingS p l = true → (p :: l).Pairwise leS
  | [], p, _ => by simp
  | x :: r, p, h => by
    have h' : (!ltCps x.cps.toList p.cps.toList && risingS x r) = true := h
    rw [Bool.and_eq_true, Bool.not_eq_true'] at h'
    have ih := rising_pw r x h'.2
    refine List.pairwise_cons.mpr ⟨fun y hy => ?_, ih⟩
    rcases List.mem_cons.mp hy with e | hy
    · subst e; exact h'.1
    · exact lt_trans' _ _ _ h'.1 ((List.pairwise_cons.mp ih).1 y hy)
theorem sorted_pw : ∀ {l : List Str}, sortedS l = true → l.Pairwise leS
  | [], _ => .nil
  | x :: r, h => rising_pw r x h
theorem sortedS_one {ys zs : List Str} (h1 : sortedS ys = true) (h2 : sortedS zs = true) (hp : ys.Perm zs) : ys = zs := by
  refine hp.eq_of_pairwise (le := leS) (fun a b _ _ h h' => ?_) (sorted_pw h1) (sorted_pw h2)
  exact str_ext (lt_anti _ _ h' h)
/-- the terms of F in the order of their wordings -/
def InOrder (F ts : List Tm) : Prop := ts.Perm F ∧ sortedS (ts.map sp) = true
theorem InOrder.one {N : Str → Prop} (hN : ∀ x, N x → NameOk x) {F G ts us : List Tm} (h : InOrder F ts) (h' : InOrder G us) (hF : All N F) (hG : All N G) (e : F.Perm G) : ts = us := by
  have hp : ts.Perm us := h.1.trans (e.trans h'.1.symm)
  have em := sortedS_one h.2 h'.2 (hp.map sp)
  have w1 : All N ts := fun t ht => hF t (h.1.mem_iff.mp ht)
  have w2 : All N us := fun t ht => hG t (h'.1.mem_iff.mp ht)
  clear hp h h'
  induction ts generalizing us with
  | nil =>
    cases us with
    | nil => rfl
    | cons u r => cases em
  | cons t r ih =>
    cases us with
    | nil => cases em
    | cons u s =>
      have em' : sp t :: r.map sp = sp u :: s.map sp := em
      injection em' with e1 e2
      rw [sp_inj hN (w1 t (by simp)) (w2 u (by simp)) e1, ih e2 (fun x hx => w1 x (by simp [hx])) fun x hx => w2 x (by simp [hx])]
/-- from the ordered wordings the ordered terms -/
theorem inOrder_of {N : Str → Prop} (hN : ∀ x, N x → NameOk x) {F : List Tm} {ys : List Str} (hF : All N F) (hp : ys.Perm (F.map sp)) (hs : sortedS ys = true) : ∃ ts, InOrder F ts ∧ ts.map sp = ys := by
  have : ∃ look : Str → Tm, ∀ t ∈ F, look (sp t) = t := by
    refine ⟨fun y => (F.find? fun t => decide (sp t = y)).getD (nm y), fun t ht => ?_⟩
    cases e : F.find? (fun u => decide (sp u = sp t)) with
    | none =>
      have := List.find?_eq_none.mp e t ht
      simp at this
    | some u =>
      have h1 := List.mem_of_find?_eq_some e
      have h2 := List.find?_some e
      have e3 : u = t := sp_inj hN (hF u h1) (hF t ht) (of_decide_eq_true h2)
      show (F.find? (fun u => decide (sp u = sp t))).getD _ = t
      rw [e, e3]; rfl
  obtain ⟨look, hl⟩ := this
  have e1 : (F.map sp).map look = F := by
    rw [List.map_map]
    have : F.map (look ∘ sp) = F.map id := List.map_congr_left fun t ht => hl t ht
    rw [this, List.map_id]
  have p := hp.map look
  rw [e1] at p
  have e2 : (ys.map look).map sp = ys := by
    rw [List.map_map]
    have : ys.map (sp ∘ look) = ys.map id := List.map_congr_left fun y hy => by
      obtain ⟨t, ht, e⟩ := List.mem_map.mp (hp.mem_iff.mp hy)
      show sp (look y) = y
      rw [← e, hl t ht]
    rw [this, List.map_id]
  exact ⟨ys.map look, ⟨p, by rw [e2]; exact hs⟩, e2⟩

/-! ### recipes -/
inductive Op where
  | heard | left | right | unbox | unshut | read
  | un (g : G1) | bi (g : G2)
  deriving DecidableEq
def Op.s : Op → Str
  | .heard => "heard"
  | .left => "left"
  | .right => "right"
  | .unbox => "unbox"
  | .unshut => "unshut"
  | .read => "read"
  | .un g => g.s
  | .bi g => g.s
abbrev Step := Op × List Nat
/-- a step's term, of the hearing and the earlier steps' terms -/
inductive Pl (row W : List Tm) : Step → Tm → Prop
  | heard {i t} : row[i]? = some t → Pl row W (.heard, [i]) t
  | left {a t u} : W[a]? = some (bi .pair t u) → Pl row W (.left, [a]) t
  | right {a t u} : W[a]? = some (bi .pair t u) → Pl row W (.right, [a]) u
  | read {a n t} : W[a]? = some (bi .mark n t) → Pl row W (.read, [a]) t
  | unbox {a b k t} : W[a]? = some (bi .box k t) → W[b]? = some k → Pl row W (.unbox, [a, b]) t
  | unshut {a b k t} : W[a]? = some (bi .shut k t) → W[b]? = some k → Pl row W (.unshut, [a, b]) t
  | pair {a b t u} : W[a]? = some t → W[b]? = some u → Pl row W (.bi .pair, [a, b]) (bi .pair t u)
  | box {a b t u} : W[a]? = some t → W[b]? = some u → Pl row W (.bi .box, [a, b]) (bi .box t u)
  | mark {a b x u} : W[a]? = some (nm x) → W[b]? = some u → Pl row W (.bi .mark, [a, b]) (bi .mark (nm x) u)
  | shut {a b x u} : W[a]? = some (un .half (nm x)) → W[b]? = some u → Pl row W (.bi .shut, [a, b]) (bi .shut (nm x) u)
  | half {a x} : W[a]? = some (nm x) → Pl row W (.un .half, [a]) (un .half (nm x))
  | mix {a t} : W[a]? = some t → Pl row W (.un .mix, [a]) (un .mix t)
/-- the arguments that are steps -/
def args : Step → List Nat
  | (.heard, _) => []
  | (_, l) => l
inductive Runs (row : List Tm) : List Step → List Tm → Prop
  | nil : Runs row [] []
  | snoc {S W s t} : Runs row S W → Pl row W s t → Runs row (S ++ [s]) (W ++ [t])
theorem Runs.len {row : List Tm} {S : List Step} {W : List Tm} (h : Runs row S W) : S.length = W.length := by
  induction h with
  | nil => rfl
  | snoc _ _ ih => rw [List.length_append, List.length_append, ih]; rfl
theorem Runs.at {row : List Tm} {S : List Step} {W : List Tm} (h : Runs row S W) {i : Nat} {s : Step} (hs : S[i]? = some s) : ∃ t, W[i]? = some t ∧ Pl row (W.take i) s t := by
  induction h with
  | nil => simp at hs
  | @snoc S W s' t' h p ih =>
    have hl := h.len
    rcases Nat.lt_or_ge i S.length with q | q
    · rw [List.getElem?_append_left q] at hs
      obtain ⟨t, h1, h2⟩ := ih hs
      refine ⟨t, by rw [List.getElem?_append_left (by omega)]; exact h1, ?_⟩
      rw [List.take_append_of_le_length (by omega)]
      exact h2
    · have hi : i = S.length := by
        have := (List.getElem?_eq_some_iff.mp hs).1
        rw [List.length_append] at this
        have e : [s'].length = 1 := rfl
        omega
      subst hi
      rw [List.getElem?_append_right (Nat.le_refl _), Nat.sub_self] at hs
      have e : s' = s := by simpa using hs
      subst e
      refine ⟨t', by rw [hl, List.getElem?_append_right (Nat.le_refl _), Nat.sub_self]; rfl, ?_⟩
      rw [hl, List.take_left]
      exact p
theorem Pl.map {row W : List Tm} {f : Str → Str} {s : Step} {t : Tm} (h : Pl row W s t) : Pl (row.map (Tm.map f)) (W.map (Tm.map f)) s (t.map f) := by
  have m : ∀ {l : List Tm} {i : Nat} {t : Tm}, l[i]? = some t → (l.map (Tm.map f))[i]? = some (t.map f) := fun e => by rw [List.getElem?_map, e]; rfl
  cases h with
  | heard h => exact .heard (m h)
  | left h => exact .left (m h)
  | right h => exact .right (m h)
  | read h => exact .read (m h)
  | unbox h h' => exact .unbox (m h) (m h')
  | unshut h h' => exact .unshut (m h) (m h')
  | pair h h' => exact .pair (m h) (m h')
  | box h h' => exact .box (m h) (m h')
  | mark h h' => exact .mark (m h) (m h')
  | shut h h' => exact .shut (m h) (m h')
  | half h => exact .half (m h)
  | mix h => exact .mix (m h)
theorem Runs.map {row : List Tm} {f : Str → Str} {S : List Step} {W : List Tm} (h : Runs row S W) : Runs (row.map (Tm.map f)) S (W.map (Tm.map f)) := by
  induction h with
  | nil => exact .nil
  | snoc _ p ih => rw [List.map_append]; exact .snoc ih p.map
theorem Pl.args_lt {row W : List Tm} {s : Step} {t : Tm} (h : Pl row W s t) : ∀ a ∈ args s, a < W.length := by
  have lt : ∀ {i : Nat} {u : Tm}, W[i]? = some u → i < W.length := fun e => (List.getElem?_eq_some_iff.mp e).1
  intro a ha
  cases h with
  | heard h => cases ha
  | left h => simp [args] at ha; subst ha; exact lt h
  | right h => simp [args] at ha; subst ha; exact lt h
  | read h => simp [args] at ha; subst ha; exact lt h
  | unbox h h' => simp [args] at ha; rcases ha with e | e <;> subst e <;> first | exact lt h | exact lt h'
  | unshut h h' => simp [args] at ha; rcases ha with e | e <;> subst e <;> first | exact lt h | exact lt h'
  | pair h h' => simp [args] at ha; rcases ha with e | e <;> subst e <;> first | exact lt h | exact lt h'
  | box h h' => simp [args] at ha; rcases ha with e | e <;> subst e <;> first | exact lt h | exact lt h'
  | mark h h' => simp [args] at ha; rcases ha with e | e <;> subst e <;> first | exact lt h | exact lt h'
  | shut h h' => simp [args] at ha; rcases ha with e | e <;> subst e <;> first | exact lt h | exact lt h'
  | half h => simp [args] at ha; subst ha; exact lt h
  | mix h => simp [args] at ha; subst ha; exact lt h
/-- a step, its arguments renumbered -/
def renum (ix : Nat → Nat) : Step → Step
  | (.heard, l) => (.heard, l)
  | (o, l) => (o, l.map ix)
theorem Pl.renum {row W W' : List Tm} {ix : Nat → Nat} {s : Step} {t : Tm} (h : Pl row W s t) (hx : ∀ a ∈ args s, ∀ u, W[a]? = some u → W'[ix a]? = some u) : Pl row W' (renum ix s) t := by
  cases h with
  | heard h => exact .heard h
  | left h => exact .left (hx _ (by simp [args]) _ h)
  | right h => exact .right (hx _ (by simp [args]) _ h)
  | read h => exact .read (hx _ (by simp [args]) _ h)
  | unbox h h' => exact .unbox (hx _ (by simp [args]) _ h) (hx _ (by simp [args]) _ h')
  | unshut h h' => exact .unshut (hx _ (by simp [args]) _ h) (hx _ (by simp [args]) _ h')
  | pair h h' => exact .pair (hx _ (by simp [args]) _ h) (hx _ (by simp [args]) _ h')
  | box h h' => exact .box (hx _ (by simp [args]) _ h) (hx _ (by simp [args]) _ h')
  | mark h h' => exact .mark (hx _ (by simp [args]) _ h) (hx _ (by simp [args]) _ h')
  | shut h h' => exact .shut (hx _ (by simp [args]) _ h) (hx _ (by simp [args]) _ h')
  | half h => exact .half (hx _ (by simp [args]) _ h)
  | mix h => exact .mix (hx _ (by simp [args]) _ h)
/-- the steps that are needed, in order: order rises, holds what its steps name; ix tells the place -/
theorem runs_prune {row : List Tm} {S : List Step} {W : List Tm} (h : Runs row S W) {ix : Nat → Nat} : ∀ (n : Nat) (order : List Nat), order.length = n → order.Pairwise (· < ·) → (∀ k ∈ order, k < S.length) →
    (∀ k ∈ order, ∀ s, S[k]? = some s → ∀ a ∈ args s, a ∈ order) → (∀ (j k : Nat), order[j]? = some k → ix k = j) → Runs row (order.filterMap fun k => (S[k]?).map (renum ix)) (order.filterMap fun k => W[k]?)
  | 0, order, hl, _, _, _, _ => by
    have e : order = [] := List.length_eq_zero_iff.mp hl
    subst e
    exact .nil
  | n + 1, order, hl, hp, hS, hc, hx => by
    obtain ⟨pre, k, rfl⟩ : ∃ pre k, order = pre ++ [k] := by
      rcases List.eq_nil_or_concat order with e | ⟨p, k, e⟩
      · rw [e] at hl; cases hl
      · exact ⟨p, k, by simpa using e⟩
    have hpl : pre.length = n := by rw [List.length_append] at hl; have e : [k].length = 1 := rfl; omega
    rw [List.pairwise_append] at hp
    have hk : k < S.length := hS k (by simp)
    have below : ∀ a ∈ pre ++ [k], a < k → a ∈ pre := fun a ha lt => by
      rcases List.mem_append.mp ha with q | q
      · exact q
      · have e : a = k := by simpa using q
        omega
    have args_in : ∀ j ∈ pre ++ [k], ∀ s, S[j]? = some s → ∀ a ∈ args s, a < j := fun j hj s hs a ha => by
      obtain ⟨t, h1, h2⟩ := h.at hs
      have := h2.args_lt a ha
      rw [List.length_take] at this
      omega
    have ih := runs_prune h (ix := ix) n pre hpl hp.1 (fun j hj => hS j (by simp [hj])) (fun j hj s hs a ha => by
      have h1 := hc j (by simp [hj]) s hs a ha
      have h2 := args_in j (by simp [hj]) s hs a ha
      have h3 : j < k := hp.2.2 j hj k (by simp)
      exact below a h1 (by omega)) (fun j x hj => hx j x (by rw [List.getElem?_append_left (List.getElem?_eq_some_iff.mp hj).1]; exact hj))
    obtain ⟨s, hs⟩ : ∃ s, S[k]? = some s := ⟨S[k], List.getElem?_eq_getElem hk⟩
    obtain ⟨t, h1, h2⟩ := h.at hs
    rw [List.filterMap_append, List.filterMap_append]
    have e1 : ([k].filterMap fun k => (S[k]?).map (renum ix)) = [renum ix s] := by simp [hs]
    have e2 : ([k].filterMap fun k => W[k]?) = [t] := by simp [h1]
    rw [e1, e2]
    refine .snoc ih (h2.renum fun a ha u hu => ?_)
    have ain : a ∈ pre := below a (hc k (by simp) s hs a ha) (args_in k (by simp) s hs a ha)
    obtain ⟨j, hj⟩ := List.mem_iff_getElem?.mp ain
    have ej : ix a = j := hx j a (by rw [List.getElem?_append_left (List.getElem?_eq_some_iff.mp hj).1]; exact hj)
    have hWa : W[a]? = some u := by
      have := (List.getElem?_eq_some_iff.mp hu).1
      rw [List.length_take] at this
      rw [List.getElem?_take, if_pos (by omega)] at hu
      exact hu
    rw [ej]
    have hall : ∀ x ∈ pre, (W[x]?).isSome = true := fun x hx' => by
      have := hS x (by simp [hx'])
      rw [h.len] at this
      rw [List.getElem?_eq_getElem this]; rfl
    have key : ∀ (l : List Nat) (j : Nat), (∀ x ∈ l, (W[x]?).isSome = true) → l[j]? = some a → (l.filterMap fun k => W[k]?)[j]? = some u := by
      intro l
      induction l with
      | nil => intro j _ e; simp at e
      | cons x r ih2 =>
        intro j hl e
        obtain ⟨y, hy⟩ := Option.isSome_iff_exists.mp (hl x (by simp))
        rw [List.filterMap_cons, hy]
        cases j with
        | zero =>
          have e' : x = a := by simpa using e
          subst e'
          rw [hWa] at hy
          cases hy
          rfl
        | succ j => exact ih2 j (fun z hz => hl z (by simp [hz])) (by simpa using e)
    exact key pre j hall hj
end Kt
/-! Terms in the heap; a dict whose keys are terms (texts and tuples). -/
namespace Kt
open PySem PySem.Spec PyProof.Rows L2
open Tm

/-! ### terms in the heap -/
def TmV (H : Hp) : Tm → V → Prop
  | .nm x, v => v = .str x
  | .un g a, v => ∃ p va, v = .ref p ∧ H p = some (.tup [.str g.s, va]) ∧ TmV H a va
  | .bi g a b, v => ∃ p va vb, v = .ref p ∧ H p = some (.tup [.str g.s, va, vb]) ∧ TmV H a va ∧ TmV H b vb
/-- the tuples that stood stand -/
def Tups (H H' : Hp) : Prop := ∀ p xs, H p = some (.tup xs) → H' p = some (.tup xs)
theorem sTups {H H' : Hp} (h : Same H H') : Tups H H' := fun p xs e => h p _ e
theorem TmV.mono {H H' : Hp} (k : Tups H H') : ∀ {t : Tm} {v : V}, TmV H t v → TmV H' t v
  | .nm x, v, h => h
  | .un g a, v, ⟨p, va, e, hp, ha⟩ => ⟨p, va, e, k _ _ hp, TmV.mono k ha⟩
  | .bi g a b, v, ⟨p, va, vb, e, hp, ha, hb⟩ => ⟨p, va, vb, e, k _ _ hp, TmV.mono k ha, TmV.mono k hb⟩
theorem TmV.same {H H' : Hp} (k : Same H H') {t : Tm} {v : V} (h : TmV H t v) : TmV H' t v := h.mono (sTups k)
abbrev TmVs (H : Hp) : List Tm → List V → Prop := Paired (TmV H)
theorem TmVs.mono {H H' : Hp} (k : Tups H H') {ts : List Tm} {vs : List V} (h : TmVs H ts vs) : TmVs H' ts vs := Paired.mapP h fun _ _ q => q.mono k
theorem TmVs.same {H H' : Hp} (k : Same H H') {ts : List Tm} {vs : List V} (h : TmVs H ts vs) : TmVs H' ts vs := h.mono (sTups k)
/-- the term as a key -/
def key : Tm → NestedKey
  | .nm x => .text x
  | .un g a => .tup [.text g.s, key a]
  | .bi g a b => .tup [.text g.s, key a, key b]
theorem g1_inj : ∀ {a b : G1}, a.s = b.s → a = b
  | .half, .half, _ => rfl
  | .mix, .mix, _ => rfl
  | .half, .mix, h => absurd h (by decide +kernel)
  | .mix, .half, h => absurd h (by decide +kernel)
theorem g2_inj : ∀ {a b : G2}, a.s = b.s → a = b := by
  intro a b h
  cases a <;> cases b <;> first | rfl | exact absurd h (by decide +kernel)
theorem key_inj : ∀ {t u : Tm}, key t = key u → t = u := by
  intro t
  induction t with
  | nm x =>
    intro u h
    cases u with
    | nm y => rw [NestedKey.text.inj h]
    | un _ _ => cases h
    | bi _ _ _ => cases h
  | un g a ih =>
    intro u h
    cases u with
    | nm y => cases h
    | un g' a' =>
      have h1 := NestedKey.tup.inj h
      injection h1 with e1 e2
      injection e2 with e2 _
      rw [g1_inj (NestedKey.text.inj e1), ih e2]
    | bi g' a' b' =>
      have h1 := NestedKey.tup.inj h
      injection h1 with _ e2
      injection e2 with _ e2
      cases e2
  | bi g a b iha ihb =>
    intro u h
    cases u with
    | nm y => cases h
    | un g' a' =>
      have h1 := NestedKey.tup.inj h
      injection h1 with _ e2
      injection e2 with _ e2
      cases e2
    | bi g' a' b' =>
      have h1 := NestedKey.tup.inj h
      injection h1 with e1 e2
      injection e2 with e2 e3
      injection e3 with e3 _
      rw [g2_inj (NestedKey.text.inj e1), iha e2, ihb e3]
theorem key_depth : ∀ t : Tm, (key t).depth + 1 = t.depth
  | .nm x => rfl
  | .un g a => by
    have := key_depth a
    show max (NestedKey.depth (.text g.s)) (max (key a).depth 0) + 1 + 1 = a.depth + 1
    have e : NestedKey.depth (.text g.s) = 0 := rfl
    rw [e]; omega
  | .bi g a b => by
    have h1 := key_depth a
    have h2 := key_depth b
    show max (NestedKey.depth (.text g.s)) (max (key a).depth (max (key b).depth 0)) + 1 + 1 = max a.depth b.depth + 1
    have e : NestedKey.depth (.text g.s) = 0 := rfl
    rw [e]; omega
section
variable {P : Program} {w : World} {H : Hp} {h : Heap}
theorem key_is (ok : HOk P w H h) : ∀ {t : Tm} {v : V} {u : Value}, TmV H t v → RelV v u → NestedIs h (key t) u
  | .nm x, v, u, e, r => by
    have e : v = .str x := e
    subst e
    obtain ⟨t, rfl⟩ := r
    exact .text _ _
  | .un g a, v, u, e, r => by
    obtain ⟨p, va, rfl, hp, ha⟩ := e
    cases r
    obtain ⟨_, its, rv, o, ho, hc, n, hd⟩ := (show ObjOk P w H h p (.tup [.str g.s, va]) from ok p _ hp)
    obtain ⟨u1, u2, rfl, r1, r2⟩ := vals2 rv
    obtain ⟨t1, rfl⟩ := r1
    exact .tup ho hc hd (.cons (.text _ _) (.cons (key_is ok ha r2) .nil))
  | .bi g a b, v, u, e, r => by
    obtain ⟨p, va, vb, rfl, hp, ha, hb⟩ := e
    cases r
    obtain ⟨_, its, rv, o, ho, hc, n, hd⟩ := (show ObjOk P w H h p (.tup [.str g.s, va, vb]) from ok p _ hp)
    cases rv with
    | cons r1 rv =>
      obtain ⟨u2, u3, rfl, r2, r3⟩ := vals2 rv
      obtain ⟨t1, rfl⟩ := r1
      exact .tup ho hc hd (.cons (.text _ _) (.cons (key_is ok ha r2) (.cons (key_is ok hb r3) .nil)))
end
/-- the term as data -/
def dat : Tm → PyData
  | .nm x => .str x
  | .un g a => .tuple [.str g.s, dat a]
  | .bi g a b => .tuple [.str g.s, dat a, dat b]
theorem dp_tm {K : PySem.W.Frag} {H : Hp} : ∀ {t : Tm} {v : V}, TmV H t v → Dp K H v (dat t)
  | .nm x, v, e => by
    have e : v = .str x := e
    subst e
    exact .str x
  | .un g a, v, e => by
    obtain ⟨p, va, rfl, hp, ha⟩ := e
    exact .tup (SqT.of hp) (.cons (.str _) (.cons (dp_tm ha) .nil))
  | .bi g a b, v, e => by
    obtain ⟨p, va, vb, rfl, hp, ha, hb⟩ := e
    exact .tup (SqT.of hp) (.cons (.str _) (.cons (dp_tm ha) (.cons (dp_tm hb) .nil)))

/-! ### a dict, told by its entries -/
def TdO (d : Addr) (es : Array DictEntry) (ep : Nat) : HO := .ext fun h => h.DictRaw d es ep
/-- an entry is the term's, its value stands for the value -/
def EntOk (w : World) (H : Hp) (p : Tm × V) (e : DictEntry) : Prop :=
  e.hash = (key p.1).hash w ∧ p.1.depth ≤ 8 ∧ (∃ kv, TmV H p.1 kv ∧ RelV kv e.key) ∧ RelV p.2 e.val
/-- at d stands a dict of these terms and values, in this order -/
def TD (w : World) (H : Hp) (d : Addr) (l : List (Tm × V)) : Prop :=
  ∃ (es : Array DictEntry) (ep : Nat), H d = some (TdO d es ep) ∧ (d == sysModules) = false ∧ l.length ≤ sizeLine ∧ (l.map (·.1)).Nodup ∧ Paired (EntOk w H) l es.toList
theorem EntOk.mono {w : World} {H H' : Hp} {p : Tm × V} {e : DictEntry} (k : Tups H H') (h : EntOk w H p e) : EntOk w H' p e := by
  obtain ⟨h1, h2, ⟨kv, h3, h4⟩, h5⟩ := h
  exact ⟨h1, h2, ⟨kv, h3.mono k, h4⟩, h5⟩
theorem TD.mono {w : World} {H H' : Hp} {d : Addr} {l : List (Tm × V)} (h : TD w H d l) (k : Tups H H') (hd : ∀ o, H d = some o → H' d = some o) : TD w H' d l := by
  obtain ⟨es, ep, e, lo, z, nd, r⟩ := h
  exact ⟨es, ep, hd _ e, lo, z, nd, Paired.mapP r fun _ _ q => q.mono k⟩
theorem TD.same {w : World} {H H' : Hp} {d : Addr} {l : List (Tm × V)} (h : TD w H d l) (k : Same H H') : TD w H' d l := h.mono (sTups k) fun o e => k d o e
theorem TD.some {w : World} {H : Hp} {d : Addr} {l : List (Tm × V)} (h : TD w H d l) : ∃ o, H d = some o := let ⟨es, ep, e, _⟩ := h; ⟨_, e⟩
/-- the place of a key -/
def ixOf (l : List (Tm × V)) (t : Tm) : Option Nat := l.findIdx? fun p => decide (p.1 = t)
def valT' (l : List (Tm × V)) (t : Tm) : Option V := valV l t

section
variable {P : Program} {w : World} {A : Around} {E : Value → Shared → Prop} {s : Shared} {d : Addr} {l : List (Tm × V)} {es : Array DictEntry} {ep : Nat} {t : Tm} {u : Value}
/-- what the find needs to know of the entries -/
structure Ents (w : World) (h : Heap) (l : List (Tm × V)) (es : Array DictEntry) : Prop where
  len : es.size = l.length
  at_ : ∀ (i : Nat) (p : Tm × V) (e : DictEntry), l[i]? = some p → es[i]? = some e → e.hash = (key p.1).hash w ∧ NestedIs h (key p.1) e.key ∧ p.1.depth ≤ 8
  nd : (l.map (·.1)).Nodup
theorem Ents.of {H : Hp} {h : Heap} (ok : HOk P w H h) (r : Paired (EntOk w H) l es.toList) (nd : (l.map (·.1)).Nodup) : Ents w h l es := by
  refine ⟨?_, ?_, nd⟩
  · have := Paired.length r
    rw [Array.length_toList] at this
    exact this.symm
  · intro i p e hp he
    have he' : es.toList[i]? = some e := by rw [Array.getElem?_toList]; exact he
    clear he nd
    generalize es.toList = m at r he'
    induction r generalizing i with
    | nil => cases hp
    | cons h1 _ ih =>
      cases i with
      | zero =>
        cases hp
        cases he'
        obtain ⟨q1, q2, ⟨kv, q3, q4⟩, _⟩ := h1
        exact ⟨q1, key_is ok q3 q4, q2⟩
      | succ i => exact ih i (by simpa using hp) (by simpa using he')
theorem Ents.get (X : Ents w s.heap l es) {i : Nat} {e : DictEntry} (he : es[i]? = some e) : ∃ p, l[i]? = some p := by
  have h := (Array.getElem?_eq_some_iff.mp he).1
  rw [X.len] at h
  exact ⟨l[i], List.getElem?_eq_getElem h⟩
theorem Ents.one (X : Ents w s.heap l es) {i j : Nat} {p q : Tm × V} (hi : l[i]? = some p) (hj : l[j]? = some q) (e : p.1 = q.1) : i = j := by
  have h1 : (l.map (·.1))[i]? = some p.1 := by rw [List.getElem?_map, hi]; rfl
  have h2 : (l.map (·.1))[j]? = some p.1 := by rw [List.getElem?_map, hj, e]; rfl
  exact nodup_get X.nd h1 h2
where
  nodup_get {m : List Tm} (hn : m.Nodup) {i j : Nat} {x : Tm} (a : m[i]? = some x) (b : m[j]? = some x) : i = j := by
    obtain ⟨h1, e1⟩ := List.getElem?_eq_some_iff.mp a
    obtain ⟨h2, e2⟩ := List.getElem?_eq_some_iff.mp b
    exact (List.getElem_inj hn).mp (e1.trans e2.symm)
theorem ix_some {i : Nat} {p : Tm × V} (hn : (l.map (·.1)).Nodup) (h : l[i]? = some p) (e : p.1 = t) : ixOf l t = some i := by
  unfold ixOf
  rw [List.findIdx?_eq_some_iff_getElem]
  obtain ⟨hi, h⟩ := List.getElem?_eq_some_iff.mp h
  refine ⟨hi, by rw [h]; exact decide_eq_true e, fun j hj => ?_⟩
  simp only [decide_eq_true_eq]
  intro e2
  have h1 : (l.map (·.1))[i]? = some t := by rw [List.getElem?_map, List.getElem?_eq_getElem hi, h, Option.map_some, e]
  have h2 : (l.map (·.1))[j]? = some t := by rw [List.getElem?_map, List.getElem?_eq_getElem (by omega), Option.map_some, e2]
  have := Ents.one.nodup_get hn h1 h2
  omega
theorem ix_none (h : ∀ (i : Nat) (p : Tm × V), l[i]? = some p → p.1 ≠ t) : ixOf l t = none := by
  unfold ixOf
  rw [List.findIdx?_eq_none_iff]
  intro p hp
  obtain ⟨i, hi⟩ := List.mem_iff_getElem?.mp hp
  exact decide_eq_false (h i p hi)
/-- nothing is told by asking == of these keys -/
theorem may_quiet {ks : List Value} {Q : Bool → Shared → Prop} (hk : NestedIs s.heap (key t) u) (h8 : t.depth ≤ 8) (hks : ∀ v ∈ ks, ∃ t', NestedIs s.heap (key t') v ∧ t'.depth ≤ 8) (q : Q false s) : wpAny (model P w) A (tableMayTell u ks) Q E s := by
  have k8 : ∀ {t : Tm}, t.depth ≤ 8 → (key t).depth ≤ 8 := fun {t} h => by have := key_depth t; omega
  unfold tableMayTell
  by_cases c : ks.isEmpty = true
  · rw [if_pos c]; exact wpAny_pure q
  rw [if_neg c]
  refine wpAny_bind (quiet_key _ _ 8 s hk (k8 h8) _ _ _ ?_)
  rw [if_neg (show ¬ ((!true) = true) by decide)]
  refine wpAny_bind (wpAny_forIn_list _ (fun rest r s' => r = (none, ()) ∧ s' = s ∧ ∀ v ∈ rest, v ∈ ks) _ ?_ ?_ _ _ ⟨rfl, rfl, fun _ z => z⟩)
  · rintro v rest r s' ⟨rfl, rfl, hr⟩
    obtain ⟨t', n, d8⟩ := hks v (hr v List.mem_cons_self)
    refine wpAny_bind (quiet_key _ _ 8 _ n (k8 d8) _ _ _ ?_)
    rw [if_neg (show ¬ ((!true) = true) by decide)]
    exact wpAny_pure ⟨rfl, rfl, fun z hz => hr z (List.mem_cons_of_mem _ hz)⟩
  · rintro r s' ⟨rfl, rfl, _⟩
    exact wpAny_pure q
end
end Kt
/-! A dict whose keys are terms: find, get, set at the library's level. -/
namespace Kt
open PySem PySem.Spec PyProof.Rows L2
open Tm
section
variable {P : Program} {w : World} {A : Around} {E : Value → Shared → Prop} {s : Shared} {d : Addr} {l : List (Tm × V)} {es : Array DictEntry} {ep : Nat} {t : Tm} {u : Value}

theorem places_mem {f : Nat → Option Int} {n i : Nat} {h : Int} : i ∈ placesWithHash n f h ↔ i < n ∧ (f i == some h) = true := by
  unfold placesWithHash
  rw [List.mem_filter, List.mem_range]
theorem places_nodup {f : Nat → Option Int} {n : Nat} {h : Int} : (placesWithHash n f h).Nodup := List.Nodup.sublist List.filter_sublist List.nodup_range

/-- the walk over keys that are not all plain: what is asked of its program is its shape -/
theorem td_slow {o : Obj} {Q : Option Nat → Shared → Prop} (hu : A.units + 8 < cLine) {pl : List Nat} {st : List Value} (hk : NestedIs s.heap (key t) u) (h8 : t.depth ≤ 8) (hst : ∀ v ∈ st, ∃ t', NestedIs s.heap (key t') v ∧ t'.depth ≤ 8)
    (same : ∀ {i : Nat} {p : Tm × V} {e : DictEntry} {A' : Around} {Q' : Bool → Shared → Prop} {E' : Value → Shared → Prop}, A'.units + 8 < cLine → l[i]? = some p → es[i]? = some e → Q' (decide (p.1 = t)) s → wpAny (model P w) A' (eqBool e.key u) Q' E' s)
    (X : Ents w s.heap l es) (ho : s.heap.get? d = some o) (hd : o.data = .dict es ep) (hn : pl.Nodup) (inb : ∀ {i : Nat}, i ∈ pl → ∃ p e, l[i]? = some p ∧ es[i]? = some e ∧ (e.hash == (key t).hash w) = true) (hit_ix : ∀ {i : Nat} {p : Tm × V}, l[i]? = some p → p.1 = t → i ∈ pl) (h : Q (ixOf l t) s) :
    wpAny (model P w) A (do
      let tells ← if (st == [u]) = true then pure false else tableMayTell u st
      if (tells && decide (st.length ≥ 2)) = true then do
        unsupported "dict.find:order-among-keys-of-one-hash"
      let mut hit : Option Nat := none
      for i in pl do
        if let some e := es[i]? then
          if e.hash == (key t).hash w then
            let before ← dictEpoch d (keyPart u)
            let eq ← eqBool e.key u
            if (← dictEpoch d (keyPart u)) != before then unsupported "dict.changed-during-lookup"
            if eq then
              if hit.isSome then unsupported "dict.find:order-among-keys-of-one-hash"
              rule "dict.find.hit"
              if st.length < 2 then return some i
              hit := some i
            else
              rule "dict.find.same-hash-other-key"
              if tells && !(0 ≤ (key t).hash w && (key t).hash w < 32) then unsupported "dict.find:asked-again-or-not-hangs-on-the-table"
      return hit) Q E s := by
  have noep : ¬ ((ep != ep) = true) := by simp
  have epoch : ∀ {A' : Around} {Q' : Nat → Shared → Prop} {E' : Value → Shared → Prop}, Q' ep s → wpAny (model P w) A' (dictEpoch d (keyPart u)) Q' E' s := fun q => wpAny_dictEpoch ho hd q
  dsimp only
  by_cases c0 : (st == [u]) = true <;>
  (first | rw [if_pos c0] | rw [if_neg c0]) <;>
  (refine wpAny_bind (wpAny_mono (Q := fun b s' => b = false ∧ s = s') (by first | exact wpAny_pure ⟨rfl, rfl⟩ | exact may_quiet hk h8 hst ⟨rfl, rfl⟩) ?_ fun _ _ z => z)
   rintro b s' ⟨rfl, rfl⟩
   simp only [Bool.false_and, Bool.false_eq_true, if_false]
   refine wpAny_bind (wpAny_forIn_list _ (fun rest b s' => s = s' ∧ b.1 = none ∧ ∃ done, pl = done ++ rest ∧ ((b.2 = none ∧ ∀ i ∈ done, ∀ p, l[i]? = some p → p.1 ≠ t) ∨ ∃ j p, b.2 = some j ∧ j ∈ done ∧ l[j]? = some p ∧ p.1 = t)) _ ?_ ?_ _ _ ⟨rfl, rfl, [], rfl, .inl ⟨rfl, fun _ z => nomatch z⟩⟩)
   · rintro i rest ⟨b1, b2⟩ s' ⟨rfl, e1, done, hpl, hh⟩
     have e1 : b1 = none := e1
     subst e1
     obtain ⟨p, e, hp, he, hash⟩ := inb (i := i) (by rw [hpl]; simp)
     simp only [he]
     rw [if_pos hash]
     refine wpAny_bind (epoch (wpAny_bind (same hu hp he (wpAny_bind (epoch ?_)))))
     show wpAny _ _ (if (ep != ep) = true then _ else _) _ E _
     rw [if_neg noep]
     by_cases c : p.1 = t
     · rw [decide_eq_true c]
       rcases hh with ⟨hb, hno⟩ | ⟨j, q, hb, hj, hq, eq⟩
       · have hb : b2 = none := hb
         subst hb
         simp only [if_true, Option.isSome_none, Bool.false_eq_true, if_false]
         refine wpAny_bind (wpAny_rule ?_)
         by_cases c2 : st.length < 2
         · rw [if_pos c2]
           have q := ix_some X.nd hp c
           rw [q] at h
           exact wpAny_pure (wpAny_pure h)
         · rw [if_neg c2]
           exact wpAny_pure ⟨rfl, rfl, done ++ [i], by rw [hpl]; simp, .inr ⟨i, p, rfl, by simp, hp, c⟩⟩
       · have eij : j = i := X.one hq hp (eq.trans c.symm)
         subst eij
         rw [hpl, List.nodup_append] at hn
         exact absurd rfl (hn.2.2 j hj j (by simp))
     · rw [decide_eq_false c]
       simp only [Bool.false_eq_true, if_false]
       refine wpAny_bind (wpAny_rule (wpAny_pure ⟨rfl, rfl, done ++ [i], by rw [hpl]; simp, ?_⟩))
       rcases hh with ⟨hb, hno⟩ | ⟨j, q, hb, hj, hq, eq⟩
       · refine .inl ⟨hb, fun j hj q hq => ?_⟩
         rcases List.mem_append.mp hj with z | z
         · exact hno j z q hq
         · have ej : j = i := by simpa using z
           subst ej
           rw [hp] at hq
           cases hq
           exact c
       · exact .inr ⟨j, q, hb, by simp [hj], hq, eq⟩
   · rintro ⟨b1, b2⟩ s' ⟨rfl, e1, done, hpl, hh⟩
     have e1 : b1 = none := e1
     subst e1
     have hpl : pl = done := by simpa using hpl
     rcases hh with ⟨hb, hno⟩ | ⟨j, q, hb, hj, hq, eq⟩
     · have hb : b2 = none := hb
       subst hb
       have q : ixOf l t = none := ix_none fun i p hp e => hno i (by have := hit_ix hp e; rw [hpl] at this; exact this) p hp e
       rw [q] at h
       exact wpAny_pure h
     · have hb : b2 = some j := hb
       subst hb
       have q2 := ix_some X.nd hq eq
       rw [q2] at h
       exact wpAny_pure h)

theorem td_find {o : Obj} {Q : Option Nat → Shared → Prop} (hu : A.units + 8 < cLine) (hk : NestedIs s.heap (key t) u) (h8 : t.depth ≤ 8) (ho : s.heap.get? d = some o) (hd : o.data = .dict es ep) (X : Ents w s.heap l es) (h : Q (ixOf l t) s) :
    wpAny (model P w) A (dictFind d u ((key t).hash w)) Q E s := by
  have k8 : ∀ {t : Tm}, t.depth ≤ 8 → (key t).depth ≤ 8 := fun {t} h => by have := key_depth t; omega
  -- whether the key of an entry is the key
  have same : ∀ {i : Nat} {p : Tm × V} {e : DictEntry} {A' : Around} {Q' : Bool → Shared → Prop} {E' : Value → Shared → Prop}, A'.units + 8 < cLine → l[i]? = some p → es[i]? = some e → Q' (decide (p.1 = t)) s → wpAny (model P w) A' (eqBool e.key u) Q' E' s := fun {i p e A' Q' E'} hA hp he q => by
    obtain ⟨_, n, d8⟩ := X.at_ i p e hp he
    refine eqAt_key (key p.1) (key t) A' s e.key u n hk ?_ _ _ _ _ ?_
    · have := k8 d8
      omega
    · have eb : NestedKey.beq (key p.1) (key t) = decide (p.1 = t) := by
        rw [← NestedKey.decide_eq]
        exact decide_eq_decide.mpr ⟨key_inj, fun e => by rw [e]⟩
      rw [eb]; exact q
  have hit_ix : ∀ {i : Nat} {p : Tm × V}, l[i]? = some p → p.1 = t → i ∈ placesWithHash es.size (fun i => es[i]?.map (·.hash)) ((key t).hash w) := fun {i p} hp e => by
    have hi : i < es.size := by rw [X.len]; exact (List.getElem?_eq_some_iff.mp hp).1
    refine places_mem.mpr ⟨hi, ?_⟩
    have he : es[i]? = some es[i] := Array.getElem?_eq_getElem hi
    rw [he, Option.map_some, (X.at_ i p _ hp he).1, e]
    exact beq_self_eq_true _
  have inb : ∀ {i : Nat}, i ∈ placesWithHash es.size (fun i => es[i]?.map (·.hash)) ((key t).hash w) → ∃ p e, l[i]? = some p ∧ es[i]? = some e ∧ (e.hash == (key t).hash w) = true := fun {i} hi => by
    obtain ⟨h1, h2⟩ := places_mem.mp hi
    have he : es[i]? = some es[i] := Array.getElem?_eq_getElem h1
    obtain ⟨p, hp⟩ := X.get he
    rw [he, Option.map_some] at h2
    exact ⟨p, es[i], hp, he, by simpa using h2⟩
  have epoch : ∀ {A' : Around} {Q' : Nat → Shared → Prop} {E' : Value → Shared → Prop}, Q' ep s → wpAny (model P w) A' (dictEpoch d (keyPart u)) Q' E' s := fun q => wpAny_dictEpoch ho hd q
  have noep : ¬ ((ep != ep) = true) := by simp
  -- the walk over plain keys
  have plain : wpAny (model P w) A (dictWalkPlain d u ((key t).hash w) es (placesWithHash es.size (fun i => es[i]?.map (·.hash)) ((key t).hash w))) Q E s := by
    unfold dictWalkPlain
    refine wpAny_bind (wpAny_forIn_list _ (fun rest b s' => b = (none, ()) ∧ s' = s ∧ ∃ done, placesWithHash es.size (fun i => es[i]?.map (·.hash)) ((key t).hash w) = done ++ rest ∧ ∀ i ∈ done, ∀ p, l[i]? = some p → p.1 ≠ t) _ ?_ ?_ _ _ ⟨rfl, rfl, [], rfl, fun _ z => nomatch z⟩)
    · rintro i rest b s' ⟨rfl, rfl, done, hpl, hno⟩
      obtain ⟨p, e, hp, he, hh⟩ := inb (i := i) (by rw [hpl]; simp)
      simp only [he]
      rw [if_pos hh]
      refine wpAny_bind (epoch (wpAny_bind (same hu hp he (wpAny_bind (epoch ?_)))))
      show wpAny _ _ (if (ep != ep) = true then _ else _) _ E _
      rw [if_neg noep]
      by_cases c : p.1 = t
      · rw [decide_eq_true c]
        have q := ix_some X.nd hp c
        rw [q] at h
        exact wpAny_bind (wpAny_rule (wpAny_pure (wpAny_pure h)))
      · rw [decide_eq_false c]
        refine wpAny_bind (wpAny_rule (wpAny_pure ⟨rfl, rfl, done ++ [i], by rw [hpl]; simp, fun j hj q hq => ?_⟩))
        rcases List.mem_append.mp hj with z | z
        · exact hno j z q hq
        · have ej : j = i := by simpa using z
          subst ej
          rw [hp] at hq
          cases hq
          exact c
    · rintro b s' ⟨rfl, rfl, done, hpl, hno⟩
      have q : ixOf l t = none := ix_none fun i p hp e => hno i (by have := hit_ix hp e; rw [hpl] at this; simpa using this) p hp e
      rw [q] at h
      exact wpAny_pure h
  have shape : (∃ x tk, t = .nm x ∧ u = .str x tk) ∨ ∃ a, u = .ref a := by
    cases t with
    | nm x => cases hk with | text _ tk => exact .inl ⟨x, tk, rfl, rfl⟩
    | un _ _ => cases hk with | tup _ _ _ _ => exact .inr ⟨_, rfl⟩
    | bi _ _ _ => cases hk with | tup _ _ _ _ => exact .inr ⟨_, rfl⟩
  have stored_ok : ∀ v ∈ (placesWithHash es.size (fun i => es[i]?.map (·.hash)) ((key t).hash w)).filterMap (fun i => es[i]?.map (·.key)), ∃ t', NestedIs s.heap (key t') v ∧ t'.depth ≤ 8 := fun v hv => by
    obtain ⟨i, hi, e1⟩ := List.mem_filterMap.mp hv
    obtain ⟨p, e, hp, he, _⟩ := inb hi
    rw [he] at e1
    cases e1
    exact ⟨p.1, (X.at_ i p e hp he).2⟩
  unfold dictFind
  refine wpAny_holding (wpAny_bind (wpAny_dictEntries ho hd ?_))
  dsimp only
  rcases shape with ⟨x, tk, rfl, rfl⟩ | ⟨a, rfl⟩
  · dsimp only
    by_cases c1 : (es.all fun e => isExactStrKey e.key) = true
    · rw [if_pos c1]
      unfold foundByValue
      have isx : ∀ {i : Nat} {p : Tm × V} {e : DictEntry}, l[i]? = some p → es[i]? = some e → (e.key.isStr x = true ↔ p.1 = .nm x) := fun {i p e} hp he => by
        obtain ⟨_, n, _⟩ := X.at_ i p e hp he
        generalize hv : e.key = v at n
        cases hq : p.1 with
        | nm y =>
          rw [hq] at n
          cases n with
          | text _ tk' => simp [Value.isStr]
        | un _ _ => rw [hq] at n; cases n; simp [Value.isStr]
        | bi _ _ _ => rw [hq] at n; cases n; simp [Value.isStr]
      cases hf : es.findIdx? (fun e => e.key.isStr x) with
      | none =>
        have q : ixOf l (.nm x) = none := ix_none fun i p hp e => by
          have hi : i < es.size := by rw [X.len]; exact (List.getElem?_eq_some_iff.mp hp).1
          have := Array.findIdx?_eq_none_iff.mp hf es[i] (Array.getElem_mem hi)
          rw [(isx hp (Array.getElem?_eq_getElem hi)).mpr e] at this
          cases this
        rw [q] at h
        exact wpAny_pure h
      | some i =>
        obtain ⟨hi, hx, _⟩ := Array.findIdx?_eq_some_iff_getElem.mp hf
        have he : es[i]? = some es[i] := Array.getElem?_eq_getElem hi
        obtain ⟨p, hp⟩ := X.get he
        have c := (isx hp he).mp hx
        have q := ix_some X.nd hp c
        rw [q] at h
        simp only [he]
        refine wpAny_bind (epoch (wpAny_bind (same hu hp he (wpAny_bind (epoch ?_)))))
        show wpAny _ _ (if (ep != ep) = true then _ else _) _ E _
        rw [if_neg noep, decide_eq_true c]
        exact wpAny_bind (wpAny_rule (wpAny_pure h))
    rw [if_neg c1]
    by_cases c2 : ((Value.str x tk :: (placesWithHash es.size (fun i => es[i]?.map (·.hash)) ((key (.nm x)).hash w)).filterMap fun i => es[i]?.map (·.key)).all carriedByValue) = true
    · rw [if_pos c2]
      exact plain
    rw [if_neg c2]
    refine td_slow hu hk h8 stored_ok same X ho hd places_nodup inb hit_ix h
  · dsimp only
    rw [if_neg (show ¬ ((Value.ref a :: (placesWithHash es.size (fun i => es[i]?.map (·.hash)) ((key t).hash w)).filterMap fun i => es[i]?.map (·.key)).all carriedByValue) = true by simp [carriedByValue])]
    have hany : ¬ (es.any fun e => e.key == Value.ref a && e.hash != (key t).hash w) = true := by
      rw [← Array.any_toList, List.any_eq_true]
      rintro ⟨e, hin, hc⟩
      simp only [Bool.and_eq_true, beq_iff_eq, bne_iff_ne, ne_eq] at hc
      obtain ⟨i, hi⟩ := List.mem_iff_getElem?.mp hin
      have he : es[i]? = some e := by rw [← Array.getElem?_toList]; exact hi
      obtain ⟨p, hp⟩ := X.get he
      obtain ⟨q1, q2, _⟩ := X.at_ i p e hp he
      rw [hc.1] at q2
      exact hc.2 (by rw [q1, NestedIs.inj _ _ _ q2 hk])
    rw [if_neg hany]
    refine td_slow hu hk h8 stored_ok same X ho hd places_nodup inb hit_ix h
end
end Kt
/-! A dict whose keys are terms: the rules of the layer. -/
namespace Kt
open PySem PySem.Spec PyProof.Rows L2
open Tm
section
variable {κ : Type} [DecidableEq κ]
theorem valV_get {l : List (κ × V)} {i : Nat} {p : κ × V} (hn : (l.map (·.1)).Nodup) (h : l[i]? = some p) : valV l p.1 = some p.2 := by
  induction l generalizing i with
  | nil => cases h
  | cons q r ih =>
    have hn : (q.1 :: r.map (·.1)).Nodup := hn
    rw [List.nodup_cons] at hn
    cases i with
    | zero => cases h; exact valV_pos rfl
    | succ i =>
      have h : r[i]? = some p := by simpa using h
      have hm : p.1 ∈ r.map (·.1) := List.mem_map.mpr ⟨p, List.mem_of_getElem? h, rfl⟩
      rw [valV_neg (fun e => hn.1 (e ▸ hm)), ih hn.2 h]
theorem valV_none_iff {l : List (κ × V)} {t : κ} : valV l t = none ↔ t ∉ l.map (·.1) := by
  constructor
  · exact valV_not
  · intro h
    cases e : valV l t with
    | none => rfl
    | some v => exact (h (valV_in e)).elim
end
theorem ix_valV_some {l : List (Tm × V)} {t : Tm} {i : Nat} (hn : (l.map (·.1)).Nodup) (h : ixOf l t = some i) : ∃ p, l[i]? = some p ∧ p.1 = t ∧ valV l t = some p.2 := by
  unfold ixOf at h
  rw [List.findIdx?_eq_some_iff_getElem] at h
  obtain ⟨hi, h1, _⟩ := h
  have e := of_decide_eq_true h1
  have h2 : l[i]? = some l[i] := List.getElem?_eq_getElem hi
  exact ⟨l[i], h2, e, by rw [← e]; exact valV_get hn h2⟩
theorem ix_valV_none {l : List (Tm × V)} {t : Tm} (h : ixOf l t = none) : valV l t = none := by
  rw [valV_none_iff]
  intro hm
  obtain ⟨p, hp, e⟩ := List.mem_map.mp hm
  unfold ixOf at h
  rw [List.findIdx?_eq_none_iff] at h
  have := h p hp
  simp [e] at this
theorem paired_at {α β : Type} {F : α → β → Prop} : ∀ {l : List α} {m : List β} {i : Nat} {a : α}, Paired F l m → l[i]? = some a → ∃ b, m[i]? = some b ∧ F a b
  | _, _, _, _, .nil, h => by cases h
  | _, _, 0, _, .cons h _, e => by cases e; exact ⟨_, rfl, h⟩
  | _, _, i + 1, _, .cons _ t, e => by
    obtain ⟨b, h1, h2⟩ := paired_at (i := i) t (by simpa using e)
    exact ⟨b, by simpa using h1, h2⟩
theorem paired_modify {α β : Type} {F : α → β → Prop} {f : α → α} {g : β → β} : ∀ {l : List α} {m : List β} (i : Nat), Paired F l m → (∀ a b, l[i]? = some a → m[i]? = some b → F a b → F (f a) (g b)) → Paired F (l.modify i f) (m.modify i g)
  | _, _, _, .nil, _ => by simp; exact .nil
  | _, _, 0, .cons h t, k => .cons (k _ _ rfl rfl h) t
  | _, _, i + 1, .cons h t, k => .cons h (paired_modify i t fun a b h1 h2 => k a b h1 h2)
/-- the dict behind a store, as the tables of the layer say it -/
theorem putK_modify {l : List (Tm × V)} {t : Tm} {v : V} {i : Nat} (hn : (l.map (·.1)).Nodup) (h : ixOf l t = some i) : putK l t v = l.modify i fun p => (p.1, v) := by
  obtain ⟨p, hp, e, hv⟩ := ix_valV_some hn h
  have ha : (l.any fun kv => decide (kv.1 = t)) = true := by rw [valV_any, hv]; rfl
  unfold putK
  rw [if_pos ha]
  clear ha hv h
  induction l generalizing i with
  | nil => cases hp
  | cons q r ih =>
    have hn : (q.1 :: r.map (·.1)).Nodup := hn
    rw [List.nodup_cons] at hn
    cases i with
    | zero =>
      cases hp
      rw [List.map_cons, if_pos e]
      have : r.map (fun kv => if kv.1 = t then (kv.1, v) else kv) = r := by
        have : r.map (fun kv => if kv.1 = t then (kv.1, v) else kv) = r.map id := List.map_congr_left fun x hx => by
          rw [if_neg (fun z => hn.1 (by rw [e, ← z]; exact List.mem_map.mpr ⟨x, hx, rfl⟩))]; rfl
        rw [this, List.map_id]
      rw [this]; rfl
    | succ i =>
      have hp : r[i]? = some p := by simpa using hp
      have hm : p.1 ∈ r.map (·.1) := List.mem_map.mpr ⟨p, List.mem_of_getElem? hp, rfl⟩
      rw [List.map_cons, if_neg (fun z => hn.1 (by rw [z, ← e]; exact hm)), ih hn.2 hp]
      rfl
theorem keys_putK {l : List (Tm × V)} {t : Tm} {v : V} : (putK l t v).map (·.1) = ins (l.map (·.1)) t := by
  unfold putK ins
  rw [valV_any]
  cases e : valV l t with
  | none =>
    rw [if_neg (by simp), if_neg (valV_none_iff.mp e)]
    simp
  | some x =>
    rw [if_pos (by simp), if_pos (valV_in e), List.map_map]
    refine List.map_congr_left fun p _ => ?_
    show (if p.1 = t then (p.1, v) else p).1 = p.1
    split <;> rfl
section
variable {X : Cx} {pins : List (Addr × Obj)} {σ : L2.St} {H : Hp} {s : Shared} {A : Around} {E : Value → Shared → Prop} {d : Addr} {l : List (Tm × V)} {t : Tm} {v : V} {u r : Value} {kv : V}
/-- the object at d, and what the find needs -/
theorem td_open (I : Inv X pins σ H s) (h : TD X.w H d l) : ∃ o es ep, s.heap.get? d = some o ∧ o.ExactDict ∧ o.data = .dict es ep ∧ (d == sysModules) = false ∧ l.length ≤ sizeLine ∧ (l.map (·.1)).Nodup ∧ Ents X.w s.heap l es ∧ Paired (EntOk X.w H) l es.toList ∧ H d = some (TdO d es ep) := by
  obtain ⟨es, ep, e, lo, z, nd, r⟩ := h
  obtain ⟨⟨o, ho, hc, hd⟩, _, _⟩ := (show ObjOk X.prog X.w H s.heap d (TdO d es ep) from I.hok d _ e)
  exact ⟨o, es, ep, ho, hc, hd, lo, z, nd, Ents.of I.hok r nd, r, e⟩
theorem td_typeIs (I : Inv X pins σ H s) (h : TD X.w H d l) : s.TypeIs (.ref d) "dict" := by
  obtain ⟨o, es, ep, ho, hc, _⟩ := td_open I h
  exact ⟨o, ho, hc.1⟩
/-- d.get, by the place -/
theorem td_get {Q : Option Value → Shared → Prop} (hu : A.units + 8 < cLine) (I : Inv X pins σ H s) (h : TD X.w H d l) (ht : TmV H t kv) (h8 : t.depth ≤ 8) (ru : RelV kv u)
    (q : ∀ o s', Inv X pins σ H s' → RelO (valV l t) o → Q o s') : wpAny (model X.prog X.w) A (dictGet d u) Q E s := by
  obtain ⟨o, es, ep, ho, hc, hd, lo, z, nd, en, r, e⟩ := td_open I h
  have hk := key_is I.hok ht ru
  have k8 : (key t).depth ≤ 8 := by have := key_depth t; omega
  unfold dictGet
  refine wpAny_holding (wpAny_bind (pyHash_key (key t) u A s _ hk (by omega) (wpAny_bind (td_find (s := { s with toks := s.toks + (key t).draws }) hu hk h8 ho hd en ?_))))
  have I1 : Inv X pins σ H { s with toks := s.toks + (key t).draws } := I.tok _
  cases hx : ixOf l t with
  | none => exact wpAny_pure (q _ _ I1 (by rw [ix_valV_none hx]; exact True.intro))
  | some i =>
    obtain ⟨p, hp, e1, hv⟩ := ix_valV_some nd hx
    obtain ⟨en', h1, h2⟩ := paired_at r hp
    rw [Array.getElem?_toList] at h1
    refine wpAny_bind (wpAny_dictEntries (s := { s with toks := s.toks + (key t).draws }) ho hd ?_)
    refine wpAny_pure (q _ _ I1 ?_)
    rw [hv, h1]
    exact h2.2.2.2
/-- the heap behind d[t] = v -/
def PutTd (w : World) (H : Hp) (d : Addr) (l : List (Tm × V)) (t : Tm) (v : V) (H' : Hp) : Prop := TD w H' d (putK l t v) ∧ ∃ o, H' = upd H d o ∧ ∀ xs, o ≠ .tup xs
theorem td_set {Q : Unit → Shared → Prop} (hu : A.units + 8 < cLine) (I : Inv X pins σ H s) (h : TD X.w H d l) (hz : l.length < sizeLine) (ht : TmV H t kv) (h8 : t.depth ≤ 8) (ru : RelV kv u) (rv : RelV v r)
    (q : ∀ H' s', Inv X pins σ H' s' → PutTd X.w H d l t v H' → Q () s') : wpAny (model X.prog X.w) A (dictSet d u r) Q E s := by
  obtain ⟨o, es, ep, ho, hc, hd, lo, z, nd, en, rr, e⟩ := td_open I h
  have hk := key_is I.hok ht ru
  have k8 : (key t).depth ≤ 8 := by have := key_depth t; omega
  have nd' : ((putK l t v).map (·.1)).Nodup := by rw [keys_putK]; exact ins_nodup nd
  have hl : (putK l t v).length ≤ sizeLine := by have := length_putK l t v; omega
  have tups : ∀ (es' : Array DictEntry) (ep' : Nat), Tups H (upd H d (TdO d es' ep')) := fun es' ep' p xs hp => by
    rw [upd_ne (ne_of hp e (fun z => nomatch z))]
    exact hp
  unfold dictSet
  refine wpAny_holding (wpAny_bind (pyHash_key (key t) u A s _ hk (by omega) ?_))
  unfold dictSetHashed
  refine wpAny_holding (wpAny_bind (td_find (s := { s with toks := s.toks + (key t).draws }) hu hk h8 ho hd en ?_))
  -- behind the write
  have fin : ∀ {h' : Heap} {es' : Array DictEntry} {ep' : Nat}, h'.DictRaw d es' ep' → Heap.SameBut d s.heap h' → Paired (EntOk X.w H) (putK l t v) es'.toList → Q () { s with heap := h', toks := s.toks + (key t).draws } := fun {h' es' ep'} dr sb pr => by
    have hg : ∃ q, h'.get? d = some q := let ⟨q, hq, _⟩ := dr; ⟨q, hq⟩
    refine q (upd H d (TdO d es' ep')) _ (I.write (x := d) (e := d) (o := TdO d es' ep') (by rw [e]; exact True.intro) (.inl rfl) (fun b ob hb eb => (sb.2 b hb).trans eb) hg ⟨dr, hg, fun h1 h2 a1 a2 => a1.at a2⟩) ⟨⟨es', ep', upd_same, lo, hl, nd', Paired.mapP pr fun _ _ y => y.mono (tups es' ep')⟩, _, rfl, fun xs z => nomatch z⟩
  cases hx : ixOf l t with
  | none =>
    have hn := ix_valV_none hx
    refine wpAny_bind (wpAny_rule (wpAny_updateDictKeys (hz := by rw [en.len]; exact z) (s := { s with toks := s.toks + (key t).draws }) ho hd ?_))
    refine fin (es' := es.push ⟨(key t).hash X.w, u, r⟩) (ep' := ep + 1) ⟨_, Heap.get?_update_self _ ho (Obj.isFreed_of_dict (Obj.data_mapDictKeys hd _)), hc.mapDictKeys _, Obj.data_mapDictKeys hd _⟩ (Heap.SameBut.update ..) ?_
    rw [putK_new v hn, Array.toList_push]
    exact Paired.snoc rr ⟨rfl, h8, ⟨kv, ht, ru⟩, rv⟩
  | some i =>
    refine wpAny_bind (wpAny_rule (wpAny_bind (wpAny_updateDict (s := { s with toks := s.toks + (key t).draws }) ho hd (wpAny_point ?_))))
    refine fin (es' := es.modify i fun e => { e with val := r }) (ep' := ep) ⟨_, Heap.get?_update_self _ ho (Obj.isFreed_of_dict (Obj.data_mapDict hd _)), hc.mapDict _, Obj.data_mapDict hd _⟩ (Heap.SameBut.update ..) ?_
    rw [putK_modify nd hx, Array.toList_modify]
    exact paired_modify i rr fun a b _ _ y => ⟨y.1, y.2.1, y.2.2.1, rv⟩

/-- t in d -/
theorem td_has {Q : Bool → Shared → Prop} (hu : A.units + 16 < cLine) (I : Inv X pins σ H s) (h : TD X.w H d l) (ht : TmV H t kv) (h8 : t.depth ≤ 8) (ru : RelV kv u)
    (q : ∀ s', Inv X pins σ H s' → Q (valV l t).isSome s') : wpAny (model X.prog X.w) A (contains (.ref d) u) Q E s := by
  have hT := td_typeIs I h
  obtain ⟨_, _, _, _, _, _, lo, _⟩ := td_open I h
  unfold contains
  try with_reducible refine wpAny_holding ?_
  refine wpAny_bind (wpAny_specialOf hT slot_dict_contains.lookup ?_)
  rw [if_neg (show ¬ (some (Value.builtin "dict.__contains__") == some Value.none) = true by rw [beq_builtin_none]; exact Bool.false_ne_true)]
  refine wpAny_bind (wpAny_callSpecialUnlessNone?_slot (name := Str.ofString "__contains__") hT slot_dict_contains (wpAny_call_entry slot_dict_contains hT entry_dict_contains ?_ (args_dict_contains _ _)))
  show wpAny _ _ (dictGet d u >>= _) _ _ s
  refine wpAny_bind (td_get (by show A.units + 1 + 8 < cLine; omega) I h ht h8 ru fun o s' I' ro => ?_)
  have eq := RelO.isSome_eq ro
  cases o with
  | some x =>
    show wpAny _ _ (ret (.bool true)) _ _ s'
    have q' := q s' I'
    rw [eq] at q'
    exact wpAny_pure ⟨_, rfl, wpAny_truthy_bool q'⟩
  | none =>
    show wpAny _ _ (Builtin.Dict.pendingKey? d u >>= _) _ _ s'
    have q' := q s' I'
    rw [eq] at q'
    exact wpAny_bind (wpAny_pendingKey_other lo (wpAny_pure ⟨_, rfl, wpAny_truthy_bool q'⟩))
/-- d[t], there -/
theorem td_item {Q : Value → Shared → Prop} (hu : A.units + 16 < cLine) (I : Inv X pins σ H s) (h : TD X.w H d l) (ht : TmV H t kv) (h8 : t.depth ≤ 8) (ru : RelV kv u) (hv : valV l t = some v)
    (q : ∀ x s', Inv X pins σ H s' → RelV v x → Q x s') : wpAny (model X.prog X.w) A (getItem (.ref d) u) Q E s := by
  have hT := td_typeIs I h
  unfold getItem
  try with_reducible refine wpAny_holding ?_
  refine wpAny_bind (wpAny_sequenceKey hT (by decide) ?_)
  refine wpAny_bind (wpAny_callSpecial?_slot (name := Str.ofString "__getitem__") hT slot_dict_getitem (wpAny_call_entry slot_dict_getitem hT entry_dict_getitem ?_ (args_dict_getitem _ _)))
  show wpAny _ _ (dictGet d u >>= _) _ _ s
  refine wpAny_bind (td_get (by show A.units + 1 + 8 < cLine; omega) I h ht h8 ru fun o s' I' ro => ?_)
  rw [hv] at ro
  obtain ⟨x, rfl, rx⟩ := RelO.some_of ro
  exact wpAny_pure ⟨x, rfl, wpAny_pure (q x s' I' rx)⟩
/-- d[t] = v -/
theorem td_store {Q : Unit → Shared → Prop} (hu : A.units + 16 < cLine) (I : Inv X pins σ H s) (h : TD X.w H d l) (hz : l.length < sizeLine) (ht : TmV H t kv) (h8 : t.depth ≤ 8) (ru : RelV kv u) (rv : RelV v r)
    (q : ∀ H' s', Inv X pins σ H' s' → PutTd X.w H d l t v H' → Q () s') : wpAny (model X.prog X.w) A (setItem (.ref d) u r) Q E s := by
  have hT := td_typeIs I h
  unfold setItem
  try with_reducible refine wpAny_holding ?_
  refine wpAny_bind (wpAny_sequenceKey hT (by decide) ?_)
  refine wpAny_bind (wpAny_callSpecial?_slot (name := Str.ofString "__setitem__") hT slot_dict_setitem (wpAny_call_entry slot_dict_setitem hT entry_dict_setitem ?_ (args_dict_setitem _ _ _)))
  show wpAny _ _ (Builtin.Dict.notOrdered "__setitem__" ⟨[.ref d, u, r], []⟩ >>= _) _ _ s
  refine wpAny_bind (wpAny_notOrdered_dict hT ?_)
  show wpAny _ _ (dictSet d u r >>= _) _ _ s
  exact wpAny_bind (td_set (by show A.units + 1 + 8 < cLine; omega) I h hz ht h8 ru rv fun H' s' I' p => wpAny_pure ⟨.none, rfl, wpAny_pure (q H' s' I' p)⟩)
end
/-! ### the layer's rules -/
section
variable {X : Cx}
def rInTd (w : World) (neg : Bool) : R2 := fun x y H Q => ∃ d l t, y = .ref d ∧ TD w H d l ∧ TmV H t x ∧ t.depth ≤ 8 ∧ Q (.bl (if neg then !decide (t ∈ l.map (·.1)) else decide (t ∈ l.map (·.1)))) H
theorem valV_isSome {l : List (Tm × V)} {t : Tm} : (valV l t).isSome = decide (t ∈ l.map (·.1)) := by
  cases e : valV l t with
  | none => rw [decide_eq_false (valV_none_iff.mp e)]; rfl
  | some v => rw [decide_eq_true (valV_in e)]; rfl
theorem op_inTd (hu : X.A.units + 64 < cLine) : OpR X (compareOp .In) (rInTd X.w false) := by
  intro pins s σ H x y v u Q I rx ry h
  obtain ⟨d, l, t, rfl, hd, ht, h8, q⟩ := h
  cases ry
  show wpAny (model X.prog X.w) X.A (do return Value.bool (← contains (.ref d) v)) _ _ s
  refine wpAny_bind (td_has (by omega) I hd ht h8 rx fun s' I' => wpAny_pure ⟨.bl _, H, I', rfl, ?_⟩)
  rw [valV_isSome]
  exact q
theorem op_notInTd (hu : X.A.units + 64 < cLine) : OpR X (compareOp .NotIn) (rInTd X.w true) := by
  intro pins s σ H x y v u Q I rx ry h
  obtain ⟨d, l, t, rfl, hd, ht, h8, q⟩ := h
  cases ry
  show wpAny (model X.prog X.w) X.A (do return Value.bool (!(← contains (.ref d) v))) _ _ s
  refine wpAny_bind (td_has (by omega) I hd ht h8 rx fun s' I' => wpAny_pure ⟨.bl _, H, I', rfl, ?_⟩)
  rw [valV_isSome]
  exact q
/-- d[t] -/
def tTdGet (w : World) (td ty : TE) : TE := fun σ H Q => td σ H fun x H1 => ty σ H1 fun y H2 => ∃ d l t v, x = .ref d ∧ TD w H2 d l ∧ TmV H2 t y ∧ t.depth ≤ 8 ∧ valV l t = some v ∧ Q v H2
theorem pe_tdget {o i : Expr} {pos : Pos} {td ty : TE} (hu : X.A.units + 64 < cLine) (ho : PE X o td) (hi : PE X i ty) (hs : NoSl i) : PE X (.Subscript o i pos) (tTdGet X.w td ty) := by
  refine ⟨fun pins s σ H Q I h => ?_⟩
  refine subD_of PySem.F.slot_dict_getitem.lookup hs (thn (ho.run pins s σ H _ I h) fun u s1 ⟨x, H1, I1, rx, q1⟩ => thn (hi.run pins s1 σ H1 _ I1 q1) fun iv s2 ⟨y, H2, I2, ry, d, l, t, v, ex, hd, ht, h8, hv, q2⟩ => ?_)
  subst ex
  cases rx
  exact ⟨td_typeIs I2 hd, td_item (by omega) I2 hd ht h8 ry hv fun x s3 I3 rv => ⟨v, H2, I3, rv, q2⟩⟩
/-- d[t] = v -/
def rSetTd (w : World) : TSet := fun o i v H Q => ∃ d l t, o = .ref d ∧ TD w H d l ∧ l.length < sizeLine ∧ TmV H t i ∧ t.depth ≤ 8 ∧ ∀ H', PutTd w H d l t v H' → Q H'
theorem set_td (hu : X.A.units + 64 < cLine) : PSet X (rSetTd X.w) := by
  intro pins s σ H o i v ov iv u Q I ro ri rv h
  obtain ⟨d, l, t, rfl, hd, hz, ht, h8, q⟩ := h
  cases ro
  exact td_store (by omega) I hd hz ht h8 ri rv fun H' s' I' p => ⟨H', I', q H' p⟩
/-- len(d) -/
theorem call_lenTd : CallR X (.builtin "len") (fun xs H Q => ∃ d l, xs = [V.ref d] ∧ TD X.w H d l ∧ Q (.int l.length) H) := by
  intro pins s σ H xs us Q I r h
  obtain ⟨d, l, rfl, hd, q⟩ := h
  obtain ⟨u, rfl, ru⟩ := vals1 r
  cases ru
  obtain ⟨o, es, ep, ho, hc, hdt, lo, z, nd, en, rr, e⟩ := td_open I hd
  have dr : s.heap.DictRaw d es ep := ⟨o, ho, hc, hdt⟩
  refine call_len_slot (n := (es.size : Int)) dr.typeIs F.slot_dict_len (fun Q' hq => call_len_raw lo dr hq) (by omega) (by rw [en.len]; rw [sizeLine_eq] at z; omega) ?_
  refine ⟨.int l.length, H, I.tok _, ⟨_, by rw [en.len]⟩, q⟩
theorem keys_vals {w : World} {H : Hp} {l : List (Tm × V)} {es : List DictEntry} (r : Paired (EntOk w H) l es) : ∃ vs, TmVs H (l.map (·.1)) vs ∧ Vals vs (es.map (·.key)) := by
  induction r with
  | nil => exact ⟨[], .nil, .nil⟩
  | cons h _ ih =>
    obtain ⟨vs, h1, h2⟩ := ih
    obtain ⟨_, _, ⟨kv, h3, h4⟩, _⟩ := h
    exact ⟨kv :: vs, .cons h3 h1, .cons h4 h2⟩
theorem items_keys {es : Array DictEntry} {acc : Array Value} (it : ItemsOf (fun i v => ∃ en, es[i]? = some en ∧ v = en.key) acc es.size) : acc.toList = es.toList.map (·.key) := by
  apply List.ext_getElem?
  intro j
  rw [List.getElem?_map, Array.getElem?_toList, Array.getElem?_toList]
  cases hj : acc[j]? with
  | none =>
    have h1 := Array.getElem?_eq_none_iff.mp hj
    have h2 := it.1
    rw [Array.getElem?_eq_none (by omega)]
    rfl
  | some v =>
    obtain ⟨en, h1, h2⟩ := it.2 j v hj
    rw [h1, h2]
    rfl
/-- list(d): the keys' own values -/
theorem call_listTd (hc : X.calm = true) : CallR X (.type "list") (fun xs H Q => ∃ d l, xs = [V.ref d] ∧ TD X.w H d l ∧ ∀ p vs, H p = none → TmVs H (l.map (·.1)) vs → Q (.ref p) (upd H p (.lst vs))) := by
  intro pins s σ H xs us Q I r h
  obtain ⟨d, l, rfl, hd, q⟩ := h
  obtain ⟨u, rfl, ru⟩ := vals1 r
  cases ru
  obtain ⟨o, es, ep, ho, hx, hdt, lo, z, nd, en, rr, e⟩ := td_open I hd
  refine PySem.W.kdl_call (kdl_raw lo hx hdt) (I.ok.hd hc) ho (by rw [en.len]; exact z) fun h' tk acc' c' kp e' it => ?_
  obtain ⟨vs, h1, h2⟩ := keys_vals rr
  have ea := items_keys it
  have hl : vs.length ≤ sizeLine := by
    have a := Paired.length h1
    rw [List.length_map] at a
    omega
  refine ⟨.ref s.heap.objs.size, upd H s.heap.objs.size (.lst vs), I.laid (t' := tk) kp (Nat.le_refl _) ⟨hl, es.toList.map (·.key), c', h2, ?_⟩, rfl, q _ vs (I.hok.fresh (Nat.le_refl _)) h1⟩
  rw [← ea, Array.toArray_toList]
  exact e'
/-- {}, to be a dict of terms -/
def tDNewTd : TE := fun _ H Q => ∀ p, H p = none → (∀ w, TD w (upd H p (TdO p #[] 0)) p []) → Q (.ref p) (upd H p (TdO p #[] 0))
theorem td_empty {H : Hp} {p : Addr} (lo : (p == sysModules) = false) : ∀ w, TD w (upd H p (TdO p #[] 0)) p [] := fun w => ⟨#[], 0, upd_same, lo, Nat.zero_le _, List.nodup_nil, .nil⟩
theorem tdo_new {P : Program} {w : World} {H : Hp} (h : Heap) : ObjOk P w H (h.push { cls := .type "dict", data := .dict #[] }) h.objs.size (TdO h.objs.size #[] 0) :=
  ⟨⟨_, Heap.get?_push_size _ rfl, ⟨rfl, rfl, rfl⟩, rfl⟩, ⟨_, Heap.get?_push_size _ rfl⟩, fun h1 h2 a b => a.at b⟩
theorem pe_dnewTd {pos : Pos} : PE X (.Dict [] [] pos) tDNewTd := ⟨fun pins s σ H Q I h =>
  wpAny_Dict_empty ⟨.ref s.heap.objs.size, _, I.laid (a := s.heap.objs.size) (o := TdO s.heap.objs.size #[] 0) (t' := s.toks) (fun _ _ q => Heap.get?_push_of_some _ q) (Nat.le_refl _) (tdo_new s.heap), rfl,
    h _ (I.hok.fresh (Nat.le_refl _)) (td_empty (beq_eq_false_iff_ne.mpr (Ne.symm (Nat.ne_of_lt I.big))))⟩⟩
end
end Kt
/-! A dict of terms by a comprehension; its keys walked. -/
namespace Kt
open PySem PySem.Spec PyProof.Rows L2
open Tm
section
variable {X : Cx}
/-- {k: v for target in iter if ..}, keys that are terms -/
def tDcT (wd : World) (wi : TI) (g : TG) (tt : TT) (tk tv : TE) (vs : List Nat) : TE := fun σ H Q => wi σ H fun J H1 => ∀ D, H1 D = none → (∀ w, TD w (upd H1 D (TdO D #[] 0)) D []) →
  ∃ W : Nat → Nat → Hp → Prop, (∃ m, W 0 m (upd H1 D (TdO D #[] 0))) ∧ ∀ i m H, W i m H →
    (J.stop i H ∧ Q (.ref D) H) ∨ (J.go i H ∧ ∃ Nx : Hp → Prop, (∀ H', Nx H' → ∃ m', m' < m ∧ W (i + 1) m' H') ∧ ∀ x H', J.yld i H x H' → g x (wipe σ vs) H' fun σ2 H2 => wipe σ2 vs = wipe σ vs ∧ tt σ2 H2 fun b H3 =>
      if b = true then tk σ2 H3 fun y H4 => tv σ2 H4 fun z H5 => ∃ l t, TD wd H5 D l ∧ l.length < sizeLine ∧ TmV H5 t y ∧ t.depth ≤ 8 ∧ ∀ H6, PutTd wd H5 D l t z H6 → Nx H6 else Nx H3)
theorem dcT_core {pins : List (Addr × Obj)} {s : Shared} {σ : L2.St} {H : Hp} {Q : VK} {kx vx tg iter : Expr} {ifs : List Expr} {scope : Scope} {own : List (PySem.Str × Nat)} {pos pos' : Pos} {wi : TI} {g : TG} {tt : TT} {tk tv : TE} {use : Option (Value → Sem Unit)} {Qf : Value → Shared → Prop}
    (hu : X.A.units + 64 < cLine) (hc : X.calm = true) (hN : X.N.Nodup) (I : Inv X pins σ H s) (hi : PI X tg iter wi) (ok : BlkOk X.N X.env.scope scope own)
    (hg : ∀ (s : Shared) (H : Hp) (C : Addr) (cl : List (PySem.Str × Addr)) (fp : List Addr), PG (X.blk s H scope (compEnvC scope cl C X.env) fp) tg g)
    (ht : ∀ (s : Shared) (H : Hp) (C : Addr) (cl : List (PySem.Str × Addr)) (fp : List Addr), PTs (X.blk s H scope (compEnvC scope cl C X.env) fp) ifs tt)
    (hk : ∀ (s : Shared) (H : Hp) (C : Addr) (cl : List (PySem.Str × Addr)) (fp : List Addr), PE (X.blk s H scope (compEnvC scope cl C X.env) fp) kx tk)
    (he : ∀ (s : Shared) (H : Hp) (C : Addr) (cl : List (PySem.Str × Addr)) (fp : List Addr), PE (X.blk s H scope (compEnvC scope cl C X.env) fp) vx tv)
    (hs : ∀ x, foldedSetIterable iter X.env x = pure x) (h : tDcT X.w wi g tt tk tv (own.map (·.2)) σ H Q)
    (hRR : ∀ D C s' m H', Inv X pins σ H' s' → Q (.ref D) H' → s'.heap.Ns C m → FpOk X pins H' C → compPost (model X.prog X.w) X.A X.xe use Qf (.ref D) C (.ok .next) s') :
    wpAny (model X.prog X.w) X.A (comprehension (.DictComp kx vx [⟨tg, iter, ifs, 0⟩] scope pos) scope X.env pos' newDict false (eval iter X.env) use) Qf X.xe s := by
  have cells : ∀ y ∈ scope.names, y.2 = .free → ∃ c, X.env.cells.lookup y.1 = some c := fun y hy e =>
    (ok.free y hy e).elim (fun k => I.ok.has _ (.inl k)) fun k => I.ok.has _ (.inr k)
  refine wpAny_comprehension_free (use := use) rfl hs (closure_ok cells) ok.kind (fun y hy e => by rw [ok.uniq y hy, e]) (thn (hi.run pins s σ H _ I h) fun xv s1 hx => thn hx fun itv s2 h2 => ?_)
  obtain ⟨it, fp, tn, J, H2, e, I2, T, st2, f2, q⟩ := h2
  subst e
  refine wpAny_newObj_type (newEnv_comp ?_)
  generalize hD : s2.heap.objs.size = D
  have hDn : H2 D = none := I2.hok.fresh (Nat.le_of_eq hD)
  have lowD : (D == sysModules) = false := beq_eq_false_iff_ne.mpr (by rw [← hD]; exact Ne.symm (Nat.ne_of_lt I2.big))
  obtain ⟨W, ⟨m0, w0⟩, turn⟩ := q D hDn (td_empty lowD)
  -- the new dict stands
  generalize hs3 : ({ s2 with heap := s2.heap.push { cls := .type "dict", data := .dict #[] } } : Shared) = s3
  have I3 : Inv X pins σ (upd H2 D (TdO D #[] 0)) s3 := by
    rw [← hs3, ← hD]
    exact I2.laid (t' := s2.toks) (fun b o e => Heap.get?_push_of_some _ e) (Nat.le_refl _) (tdo_new s2.heap)
  have h3 : s3.heap = s2.heap.push { cls := .type "dict", data := .dict #[] } := by rw [← hs3]
  have f3 : ∀ b ∈ fp, FpOk X pins (upd H2 D (TdO D #[] 0)) b ∧ b < s3.heap.objs.size := fun b hb => by
    obtain ⟨o, eo, _⟩ := T.obj _ _ st2 b hb
    have lt := Heap.lt_size eo
    refine ⟨⟨?_, (f2 b hb).2⟩, by rw [h3, Heap.size_push]; exact Nat.lt_succ_of_lt lt⟩
    rw [upd_ne (by rw [← hD]; exact Nat.ne_of_lt lt)]
    exact (f2 b hb).1
  have st3 : tn 0 s3.heap := T.keep _ _ _ st2 fun b _ o e => by rw [h3]; exact Heap.get?_push_of_some _ e
  have I4 := block_start I3 ok hN f3
  have pg := hg s3 (upd H2 D (TdO D #[] 0)) s3.heap.objs.size (cellsFrom (s3.heap.objs.size + 1) scope.names (cloFrom X.env.cells scope.names [])) fp
  have pt := ht s3 (upd H2 D (TdO D #[] 0)) s3.heap.objs.size (cellsFrom (s3.heap.objs.size + 1) scope.names (cloFrom X.env.cells scope.names [])) fp
  have pk := hk s3 (upd H2 D (TdO D #[] 0)) s3.heap.objs.size (cellsFrom (s3.heap.objs.size + 1) scope.names (cloFrom X.env.cells scope.names [])) fp
  have pe := he s3 (upd H2 D (TdO D #[] 0)) s3.heap.objs.size (cellsFrom (s3.heap.objs.size + 1) scope.names (cloFrom X.env.cells scope.names [])) fp
  show codeAny _ _ (.compStart (.DictComp kx vx [⟨tg, iter, ifs, 0⟩] scope pos) 0 (.ref it) (.ref D) (compEnvC scope (cellsFrom (s3.heap.objs.size + 1) scope.names (cloFrom X.env.cells scope.names [])) s3.heap.objs.size X.env)) (compPost (model X.prog X.w) X.A X.xe use Qf (.ref D) s3.heap.objs.size) { s3 with heap := pushCells (s3.heap.push { cls := .type "dict", data := .dict #[] }) scope.names }
  have nfp : ∀ b ∈ fp, (upd H2 D (TdO D #[] 0)) b = none := fun b hb => (f3 b hb).1.1
  generalize hce : compEnvC scope (cellsFrom (s3.heap.objs.size + 1) scope.names (cloFrom X.env.cells scope.names [])) s3.heap.objs.size X.env = ce at I4 pg pt pk pe ⊢
  have cL : ce.locals = s3.heap.objs.size := by subst hce; rfl
  generalize hH3 : upd H2 D (TdO D #[] 0) = H3 at I3 I4 pg pt pk pe w0 nfp f3
  generalize hs4 : ({ s3 with heap := pushCells (s3.heap.push { cls := .type "dict", data := .dict #[] }) scope.names } : Shared) = s4 at I4 ⊢
  have st4 : tn 0 s4.heap := T.keep _ _ _ st3 fun b _ o e => by rw [← hs4]; exact pushCells_keeps _ _ _ _ (Heap.get?_push_of_some _ e)
  have stat : ∀ {σ' : L2.St} {H' : Hp} {s' : Shared}, Inv (X.blk s3 H3 scope ce fp) [] σ' H' s' → (∀ b ∈ fp, H' b = none) → ∀ b ∈ fp, FpOk (X.blk s3 H3 scope ce fp) [] H' b := fun {σ' H' s'} I' hn b hb =>
    ⟨hn b hb, (I'.ok.exf b hb).1, I'.ok.exfs b hb, .inl hb, fun x c e => (I'.ok.exf b hb).2 x c e, fun p hp => by cases (show p ∈ ([] : List (Addr × Obj)) from hp)⟩
  have loop : codeAny (model X.prog X.w) X.A (.compLoop (.DictComp kx vx [⟨tg, iter, ifs, 0⟩] scope pos) 0 (.ref it) (.ref D) ce) (compPost (model X.prog X.w) X.A X.xe use Qf (.ref D) s3.heap.objs.size) s4 := by
    refine compLoop_anyD (fun n s' => ∃ i H', Inv (X.blk s3 H3 scope ce fp) [] (wipe σ (own.map (·.2))) H' s' ∧ tn i s'.heap ∧ (∀ b ∈ fp, H' b = none) ∧ W i n H') ?_ m0 ⟨0, H3, I4, st4, nfp, w0⟩
    rintro n s5 ⟨i, H5, I5, st5, n5, w5⟩
    rcases turn i n H5 w5 with ⟨stop, qq⟩ | ⟨go, Nx, hNx, step⟩
    · refine thnF (T.done (X.blk s3 H3 scope ce fp) rfl rfl rfl hc i [] s5 _ H5 (fun _ _ => False) I5 (stat I5 n5) st5 stop) fun r s6 ⟨hr, I6⟩ => ?_
      subst hr
      have I7 : Inv X pins σ H5 s6 := I3.call' (ch := fp) I6.os I6.base I6.hok I6.bare fun b hb => ⟨(f3 b hb).1.2.2.2.1, (f3 b hb).1.2.1, (f3 b hb).1.2.2.2.2.1, (f3 b hb).1.2.2.2.2.2⟩
      have nC : H5 s3.heap.objs.size = none := cL ▸ (show H5 ce.locals = none from I6.free)
      obtain ⟨m, hn, _⟩ := I6.loc
      have hn : s6.heap.Ns s3.heap.objs.size m := cL ▸ (show s6.heap.Ns ce.locals m from hn)
      exact hRR D s3.heap.objs.size s6 m H5 I7 qq hn (I3.fpOk (Nat.le_refl _) nC)
    · refine thnF (T.item (X.blk s3 H3 scope ce fp) rfl rfl rfl hc i [] s5 _ H5 (fun _ _ => False) I5 (stat I5 n5) st5 go) fun r s6 ⟨u, hr, h6⟩ => ?_
      subst hr
      refine thnF h6 fun _ s7 ⟨x, H7, I7, r7, y7, st7, n7⟩ => ?_
      refine thnF (pg.run _ s7 _ H7 x u _ (I7.pinned (stat I7 n7) (T.obj _ _ st7)) r7 (step x H7 y7)) fun _ s8 ⟨σ8, H8, I8, hw8, q8⟩ => ?_
      refine thnF (pt.run _ s8 σ8 H8 _ I8 q8) fun b s9 ⟨H9, I9, q9⟩ => ?_
      -- the end of a turn
      have fin : ∀ {s' : Shared} {H' : Hp}, Inv (X.blk s3 H3 scope ce fp) ([] ++ pinsAt fp s7.heap) σ8 H' s' → Nx H' → ∃ m, m < n ∧ ∃ i H', Inv (X.blk s3 H3 scope ce fp) [] (wipe σ (own.map (·.2))) H' s' ∧ tn i s'.heap ∧ (∀ b ∈ fp, H' b = none) ∧ W i m H' := fun {s' H'} I' nx => by
        obtain ⟨m', hm, w'⟩ := hNx H' nx
        have stays : ∀ b ∈ fp, ∀ o, s7.heap.get? b = some o → s'.heap.get? b = some o ∧ H' b = none := fun b hb o e => by
          have z := I'.pin (b, o) (List.mem_append_right _ (List.mem_append_right _ (mem_pinsAt hb e)))
          exact ⟨z.1, z.2.1⟩
        refine ⟨m', hm, i + 1, H', (I'.unpinned (pins := [])).weak (by rw [← hw8, wipe_length]) (fun j v e => ?_), T.keep _ _ _ st7 fun b hb o e => (stays b hb o e).1, fun b hb => ?_, w'⟩
        · rw [← hw8] at e
          exact (wipe_some e).1
        · obtain ⟨o, e, _⟩ := T.obj _ _ st7 b hb
          exact (stays b hb o e).2
      cases b with
      | false =>
        simp only [Bool.false_eq_true, if_false] at q9 ⊢
        exact fin I9 q9
      | true =>
        simp only [if_true] at q9 ⊢
        refine thnF (pk.run _ s9 σ8 H9 _ I9 q9) fun z s10 ⟨yk, H10, I10, r10, q10⟩ => ?_
        refine thnF (pe.run _ s10 σ8 H10 _ I10 q10) fun z2 s11 ⟨yv, H11, I11, r11, l, t, hd11, hz11, ht11, h8, nx⟩ => ?_
        exact td_set (X := X.blk s3 H3 scope ce fp) (by show X.A.units + 8 < cLine; omega) I11 hd11 hz11 ht11 h8 r10 r11 fun H12 s12 I12 p => fin I12 (nx H12 p)
  exact codeAny_compStart_dict loop (T.self X.A 0 _ _ _ st4 loop)
theorem pe_dcT {kx vx tg iter : Expr} {ifs : List Expr} {scope : Scope} {own : List (PySem.Str × Nat)} {pos : Pos} {wi : TI} {g : TG} {tt : TT} {tk tv : TE} (hu : X.A.units + 64 < cLine) (hc : X.calm = true) (hN : X.N.Nodup) (hi : PI X tg iter wi) (ok : BlkOk X.N X.env.scope scope own)
    (hg : ∀ (s : Shared) (H : Hp) (C : Addr) (cl : List (PySem.Str × Addr)) (fp : List Addr), PG (X.blk s H scope (compEnvC scope cl C X.env) fp) tg g)
    (ht : ∀ (s : Shared) (H : Hp) (C : Addr) (cl : List (PySem.Str × Addr)) (fp : List Addr), PTs (X.blk s H scope (compEnvC scope cl C X.env) fp) ifs tt)
    (hk : ∀ (s : Shared) (H : Hp) (C : Addr) (cl : List (PySem.Str × Addr)) (fp : List Addr), PE (X.blk s H scope (compEnvC scope cl C X.env) fp) kx tk)
    (he : ∀ (s : Shared) (H : Hp) (C : Addr) (cl : List (PySem.Str × Addr)) (fp : List Addr), PE (X.blk s H scope (compEnvC scope cl C X.env) fp) vx tv)
    (hs : ∀ x, foldedSetIterable iter X.env x = pure x := by intro _; rfl) : PE X (.DictComp kx vx [⟨tg, iter, ifs, 0⟩] scope pos) (tDcT X.w wi g tt tk tv (own.map (·.2))) := by
  refine ⟨fun pins s σ H Q I h => ?_⟩
  rw [arm_eval_DictComp]
  refine dcT_core hu hc hN I hi ok hg ht hk he hs h fun D C s' m H' I' q hn f => ⟨m, hn, fun h'' sb => ?_⟩
  obtain ⟨f0, f1, f2, f3, f4, f5⟩ := f
  exact ⟨.ref D, H', I'.turned (t' := s'.toks) (fun b o hb e => (sb.2 b hb).trans e) f0 f1 f3 f4 f5, rfl, q⟩
/-- {k: v for x in seq}: the loop over a sequence that stays, told by the keys so far -/
theorem dcT_seq {wd : World} {J : It} {n : Nat} {g : TG} {tk tv : TE} {vs : List Nat} {σ : L2.St} {H1 : Hp} {D : Addr} {Qd : Hp → Prop} (Pv : Nat → Hp → Prop) (h0 : Pv 0 (upd H1 D (TdO D #[] 0))) (hl : ∀ i H, i ≤ n → Pv i H → (i < n → J.go i H) ∧ (n ≤ i → J.stop i H))
    (hs : ∀ i x H H', i < n → Pv i H → J.yld i H x H' → g x (wipe σ vs) H' fun σ2 H2 => wipe σ2 vs = wipe σ vs ∧ tk σ2 H2 fun y H4 => tv σ2 H4 fun z H5 => ∃ l t, TD wd H5 D l ∧ l.length < sizeLine ∧ TmV H5 t y ∧ t.depth ≤ 8 ∧ ∀ H6, PutTd wd H5 D l t z H6 → Pv (i + 1) H6)
    (hd : ∀ H, Pv n H → Qd H) :
    ∃ W : Nat → Nat → Hp → Prop, (∃ m, W 0 m (upd H1 D (TdO D #[] 0))) ∧ ∀ i m H, W i m H →
    (J.stop i H ∧ Qd H) ∨ (J.go i H ∧ ∃ Nx : Hp → Prop, (∀ H', Nx H' → ∃ m', m' < m ∧ W (i + 1) m' H') ∧ ∀ x H', J.yld i H x H' → g x (wipe σ vs) H' fun σ2 H2 => wipe σ2 vs = wipe σ vs ∧ tYes σ2 H2 fun b H3 =>
      if b = true then tk σ2 H3 fun y H4 => tv σ2 H4 fun z H5 => ∃ l t, TD wd H5 D l ∧ l.length < sizeLine ∧ TmV H5 t y ∧ t.depth ≤ 8 ∧ ∀ H6, PutTd wd H5 D l t z H6 → Nx H6 else Nx H3) := by
  refine ⟨fun i m H => m = n - i ∧ i ≤ n ∧ Pv i H, ⟨n, rfl, Nat.zero_le _, h0⟩, ?_⟩
  rintro i m H ⟨rfl, hi, p⟩
  obtain ⟨q1, q2⟩ := hl i H hi p
  by_cases lt : i < n
  · exact .inr ⟨q1 lt, Pv (i + 1), fun H' p' => ⟨n - (i + 1), by omega, rfl, lt, p'⟩, fun x H' y => hs i x H H' lt p y⟩
  · have e : i = n := by omega
    subst e
    exact .inl ⟨q2 (Nat.le_refl _), hd H p⟩
end
/-! ### the keys walked -/
section
/-- the keys of the dict at d, which stays as it is -/
def ItTd (d : Addr) (es : Array DictEntry) (ep : Nat) (w : World) (l : List (Tm × V)) : It :=
  ⟨fun i H => H d = some (TdO d es ep) ∧ Paired (EntOk w H) l es.toList ∧ i < l.length, fun i H x H' => H' = H ∧ ∃ p, l[i]? = some p ∧ TmV H p.1 x, fun i H => H d = some (TdO d es ep) ∧ Paired (EntOk w H) l es.toList ∧ l.length ≤ i⟩
theorem turn_td {P : Program} {w : World} {K : PySem.W.Frag} {tg : Expr} {d : Addr} {es : Array DictEntry} {ep : Nat} {l : List (Tm × V)} (it : Addr) : Turn P w K tg (ItTd d es ep w l) [it] it (fun i h => h.IsKeyIter it d i es.size ep) where
  mem := List.mem_singleton.mpr rfl
  obj := fun i h st b hb => by
    obtain rfl : b = it := List.mem_singleton.mp hb
    obtain ⟨oi, e, _, dd⟩ := st
    exact ⟨oi, e, fun v z => by rw [dd] at z; cases z⟩
  keep := fun i h h' st k => st.at fun oi e => k it (List.mem_singleton.mpr rfl) oi e
  item := by
    intro X hP hw hK hc i pins s σ H E I hf st hg
    subst hP hw hK
    obtain ⟨hd, pr, hi⟩ := hg
    obtain ⟨f0, f1, f2, f3, f4, f5⟩ := hf it (List.mem_singleton.mpr rfl)
    obtain ⟨dr, _, _⟩ := (show ObjOk X.prog X.w H s.heap d (TdO d es ep) from I.hok d _ hd)
    have sz : es.size = l.length := by have := Paired.length pr; rw [Array.length_toList] at this; exact this.symm
    obtain ⟨p, hp⟩ : ∃ p, l[i]? = some p := ⟨l[i], List.getElem?_eq_getElem hi⟩
    obtain ⟨en, h1, h2⟩ := paired_at pr hp
    obtain ⟨_, _, ⟨kv, h3, h4⟩, _⟩ := h2
    have hlt : i < es.size := by omega
    refine wpAny_pyNext_keys_item_raw st dr hlt fun h' st' sb => ?_
    have I1 : Inv X pins σ H { s with heap := h' } := I.turned (t' := s.toks) (fun b ob hb e => (sb.2 b hb).trans e) f0 f1 f3 f4 f5
    obtain ⟨oi, e, c, dd⟩ := id st'
    have ek : es[i].key = en.key := by
      rw [Array.getElem?_toList, Array.getElem?_eq_getElem hlt] at h1
      rw [Option.some.inj h1]
    exact ⟨es[i].key, rfl, go_of (s := { s with heap := h' }) e c dd (by decide) ⟨kv, H, I1, by rw [ek]; exact h4, ⟨rfl, p, hp, h3⟩, st', fun b hb => (hf b hb).1⟩⟩
  done := by
    intro X hP hw hK hc i pins s σ H E I hf st hg
    subst hP hw hK
    obtain ⟨hd, pr, hi⟩ := hg
    obtain ⟨f0, f1, f2, f3, f4, f5⟩ := hf it (List.mem_singleton.mpr rfl)
    obtain ⟨dr, _, _⟩ := (show ObjOk X.prog X.w H s.heap d (TdO d es ep) from I.hok d _ hd)
    have sz : es.size = l.length := by have := Paired.length pr; rw [Array.length_toList] at this; exact this.symm
    exact wpAny_pyNext_keys_end_raw (I.ok.hd hc) st dr (by omega) fun h' eb => ⟨rfl, I.turned (t' := s.toks) (fun b ob hb e => eb b ob hb e) f0 f1 f3 f4 f5⟩
  self := fun A i s Q E st h => wpAny_pyIter_keyiter st h
variable {X : Cx}
def iTd (w : World) (te : TE) : TI := fun σ H R => te σ H fun x H1 => ∃ d l, x = .ref d ∧ TD w H1 d l ∧ ∀ es ep, H1 d = some (TdO d es ep) → Paired (EntOk w H1) l es.toList → R (ItTd d es ep w l) H1
theorem pi_td {tg e : Expr} {te : TE} (he : PE X e te) : PI X tg e (iTd X.w te) := by
  refine ⟨fun pins s σ H R I h => ?_⟩
  refine thn (he.run pins s σ H _ I h) fun v s1 ⟨x, H1, I1, r1, d, l, ex, hd, q⟩ => ?_
  subst ex
  cases r1
  obtain ⟨o, es, ep, ho, hx, hdt, lo, z, nd, en, rr, eo⟩ := td_open I1 hd
  refine wpAny_pyIter_dict_raw lo ⟨o, ho, hx, hdt⟩ ?_
  refine ⟨s1.heap.objs.size, [s1.heap.objs.size], _, _, H1, rfl, I1.kept (t' := s1.toks) fun b o e => Heap.get?_push_of_some _ e, turn_td _, ⟨_, Heap.get?_push_size _ rfl, rfl, rfl⟩, fun b hb => ?_, q es ep eo rr⟩
  obtain rfl : b = s1.heap.objs.size := List.mem_singleton.mp hb
  exact I1.fpOk (Nat.le_refl _) (I1.hok.fresh (Nat.le_refl _))
end
end Kt
/-! Rules in short: isinstance, defs, facts of the module. -/
namespace Kt
open PySem PySem.Spec PyProof.Rows L2
open Tm
/-! ### isinstance -/
inductive Kn where
  | non | bl | int | str | lst | tup | dic
  deriving DecidableEq
def Kn.n : Kn → String
  | .non => "NoneType"
  | .bl => "bool"
  | .int => "int"
  | .str => "str"
  | .lst => "list"
  | .tup => "tuple"
  | .dic => "dict"
def isK : Kn → Kn → Bool
  | .bl, .bl => true
  | .bl, .int => true
  | .int, .int => true
  | .str, .str => true
  | .lst, .lst => true
  | .tup, .tup => true
  | .dic, .dic => true
  | _, _ => false
theorem kit_ok (a b : Kn) (h : b ≠ .non) : kitB a.n b.n = some (isK a b) := by
  cases a <;> cases b <;> first | exact absurd rfl h | decide +kernel
/-- what kind of thing a value is -/
inductive Kd (H : Hp) : V → Kn → Prop
  | non : Kd H .non .non
  | bl (b) : Kd H (.bl b) .bl
  | int (i) : Kd H (.int i) .int
  | str (x) : Kd H (.str x) .str
  | lst {a xs} (e : H a = some (.lst xs)) : Kd H (.ref a) .lst
  | tup {a xs} (e : H a = some (.tup xs)) : Kd H (.ref a) .tup
  | dic {a kvs} (e : H a = some (.dK kvs)) : Kd H (.ref a) .dic
theorem Kd.ty {K : PySem.W.Frag} {H : Hp} {x : V} {k : Kn} (h : Kd H x k) : TyX K H x (.type k.n) := by
  cases h with
  | non => exact .base .non
  | bl b => exact .base (.bl b)
  | int i => exact .base (.int i)
  | str x => exact .base (.str x)
  | lst e => exact .base (.lst e)
  | tup e => exact .base (.tup e)
  | dic e => exact .base (.dK e)
theorem Kd.tm {H : Hp} {t : Tm} {v : V} (h : TmV H t v) : Kd H v (if t.isNm = true then .str else .tup) := by
  cases t with
  | nm x =>
    have h : v = .str x := h
    subst h
    exact .str x
  | un g a =>
    obtain ⟨p, va, rfl, hp, _⟩ := h
    exact .tup hp
  | bi g a b =>
    obtain ⟨p, va, vb, rfl, hp, _⟩ := h
    exact .tup hp
section
variable {X : Cx} {a : Expr} {ta : TE} {pos p1 p2 : Pos}
def rIsK (b : Kn) : List V → Hp → VK → Prop := fun xs H Q => match xs with
  | [x, c] => c = .ty b.n ∧ ∃ k, Kd H x k ∧ Q (.bl (isK k b)) H
  | _ => False
theorem call_isK (b : Kn) (hb : b ≠ .non := by decide) : CallR X (.builtin "isinstance") (rIsK b) := by
  intro pins s σ H xs us Q I r h
  match xs, h with
  | [x, c], ⟨hc, k, hk, q⟩ => exact call_isi pins s σ H _ us Q I r ⟨x, c, .type k.n, .type b.n, isK k b, rfl, by rw [hc]; exact .ty _, hk.ty, kit_ty (kit_ok k b hb), q⟩
/-- isinstance(x, (S, T)): the tuple just laid -/
def rIsK2 (b c : Kn) : List V → Hp → VK → Prop := fun xs H Q => match xs with
  | [x, .ref p] => H p = some (.tup [.ty b.n, .ty c.n]) ∧ ∃ k, Kd H x k ∧ Q (.bl (isK k b || isK k c)) H
  | _ => False
theorem call_isK2 (b c : Kn) (hb : b ≠ .non := by decide) (hc : c ≠ .non := by decide) : CallR X (.builtin "isinstance") (rIsK2 b c) := by
  intro pins s σ H xs us Q I r h
  match xs, h with
  | [x, .ref p], ⟨hp, k, hk, q⟩ =>
    refine call_isiT pins s σ H _ us Q I r ⟨x, p, [.ty b.n, .ty c.n], .type k.n, [.type b.n, .type c.n], isK k b || isK k c, rfl, hp, .cons (.ty _) (.cons (.ty _) .nil), hk.ty, ?_, q⟩
    refine kitAny_cons (kit_ty (kit_ok k b hb)) (fun e => ?_) fun e => by rw [e]; rfl
    rw [e]
    exact kitAny_cons (kit_ty (kit_ok k c hc)) (fun e' => by rw [e']; exact kitAny_nil) fun e' => by rw [e']; rfl
end
/-! ### a comprehension's dict, stored in a local name -/
section
variable {X : Cx}
theorem sw_trueD {kx vx : Expr} {gs : List Comprehension} {scope : Scope} {pos py : Pos} {y : PySem.Str} {l : Nat} {env : Env} (hk : env.scope.kind = .function) (hy : env.scope.names.lookup y = some .local) (hl : (py.line == pos.line) = true)
    (ha : (scope.names.any fun (n, k) => n == y && (k == .local || k == .cell)) = false) : swapsWith (.DictComp kx vx gs scope pos) (some (.Name y py)) l env = pure true := by
  have ky : env.kindOf y = some .local := hy
  have hb : env.blockKind = .function := by unfold Env.blockKind; rw [hk]; rfl
  unfold swapsWith
  simp only [hb, ky, ha, Expr.pos, hl]
  rfl
theorem ps_setDcT {i : Nat} {y : PySem.Str} {py : Pos} {kx vx tg iter : Expr} {ifs : List Expr} {scope : Scope} {own : List (PySem.Str × Nat)} {pos spos : Pos} {wi : TI} {g : TG} {tt : TT} {tk tv : TE} (hu : X.A.units + 64 < cLine) (hc : X.calm = true) (hN : X.N.Nodup)
    (hy : X.N[i]? = some y) (hyl : X.env.scope.names.lookup y = some .local) (hsw : swapsWith (.DictComp kx vx [⟨tg, iter, ifs, 0⟩] scope pos) (some (.Name y py)) spos.line X.env = pure true) (hi : PI X tg iter wi) (ok : BlkOk X.N X.env.scope scope own)
    (hg : ∀ (s : Shared) (H : Hp) (C : Addr) (cl : List (PySem.Str × Addr)) (fp : List Addr), PG (X.blk s H scope (compEnvC scope cl C X.env) fp) tg g)
    (ht : ∀ (s : Shared) (H : Hp) (C : Addr) (cl : List (PySem.Str × Addr)) (fp : List Addr), PTs (X.blk s H scope (compEnvC scope cl C X.env) fp) ifs tt)
    (hk : ∀ (s : Shared) (H : Hp) (C : Addr) (cl : List (PySem.Str × Addr)) (fp : List Addr), PE (X.blk s H scope (compEnvC scope cl C X.env) fp) kx tk)
    (he : ∀ (s : Shared) (H : Hp) (C : Addr) (cl : List (PySem.Str × Addr)) (fp : List Addr), PE (X.blk s H scope (compEnvC scope cl C X.env) fp) vx tv)
    (hs : ∀ x, foldedSetIterable iter X.env x = pure x := by intro _; rfl) :
    PS X (.Assign [.Name y py] (.DictComp kx vx [⟨tg, iter, ifs, 0⟩] scope pos) spos) (tAsg (tDcT X.w wi g tt tk tv (own.map (·.2))) (gName i)) := by
  refine ⟨fun pins s σ H D I h => ?_⟩
  rw [exec_Assign_Name_used _ _ _ _ hsw]
  refine wpAny_bind (wpAny_standAt (wpAny_bind ?_))
  show wpAny _ X.A (do let _ ← comprehension (.DictComp kx vx [⟨tg, iter, ifs, 0⟩] scope pos) scope X.env (firstIterPos [⟨tg, iter, ifs, 0⟩] pos) newDict false (eval iter X.env) (some (assign (.Name y py) X.env))) _ _ s
  have h : tDcT X.w wi g tt tk tv (own.map (·.2)) σ H (fun x H1 => gName i x σ H1 D.nx) := h
  refine wpAny_bind (thn (dcT_core (Qf := fun _ s' => SP X pins D .next s') hu hc hN I hi ok hg ht hk he hs h fun L C s' m H' I' q hn f => ?_) fun _ s' hq => wpAny_pure (wpAny_pure hq))
  show wpAny _ _ (assign (.Name y py) X.env (.ref L)) _ _ _
  refine wpAny_assign_Name (store_ok2 (v := V.ref L) I' hN hy (.inl hyl) rfl (fun s2 I2 ⟨a, sb, ha⟩ => ?_) (.inr hyl))
  obtain ⟨f0, f1, f2, f3, f4, f5⟩ := f
  have haC : C ≠ a := ha.elim (fun z => by rw [z]; exact f1) fun z e => f4 y a z e.symm
  refine ⟨m, hn.sameBut sb haC, fun h3 sb3 => ⟨_, H', I2.turned (t' := s2.toks) (fun b o hb e => (sb3.2 b hb).trans e) f0 f1 f3 f4 f5, q⟩⟩
/-- sorted(d), all keys ints, any number of them -/
theorem call_sortedI (hcalm : X.calm = true) : CallR X (.builtin "sorted") (fun xs H Q => ∃ (a : Addr) (kvs : List (Key × V)) (ks : List Int), xs = [.ref a] ∧ Rd H a (.dK kvs) ∧ kvs.map (·.1) = ks.map Sum.inl ∧
    ∀ (ys : List Int) (p : Addr), ys.Perm ks → ys.Pairwise (· ≤ ·) → H p = none → Q (.ref p) (upd H p (.lst (ys.map V.int)))) := by
  intro pins s σ H xs us Q I r q
  obtain ⟨a, kvs, ks, rfl, hd, hks, q⟩ := q
  obtain ⟨u, rfl, rx⟩ := vals1 r
  cases rx
  obtain ⟨z, lo, vs, rel, dd⟩ := dk_rd I.hok hd
  obtain ⟨ep, hat⟩ := dd.dictAt
  have hkeys : vs.map (·.1) = ks.map Sum.inl := rel.keys.symm.trans hks
  have hl : vs.length = ks.length := by
    have e := congrArg List.length hkeys
    rwa [List.length_map, List.length_map] at e
  have h16 : vs.length ≤ sizeLine := by rw [← rel.length]; exact z
  refine Calls.call_function_entry PyProof.Rows.kind_sorted PyProof.Rows.plain_sorted PyProof.Rows.entry_sorted (PyProof.Rows.args_sorted1 _) ?_
  unfold Builtin.«sorted»
  refine wpAny_bind (m := checkCount "sorted" 1 1 _) (wpAny_pure ?_)
  refine wpAny_bind (PySem.W.kdu_collect (A := X.A.in1) (PySem.W.kdl_dict (knd := mixKind X.prog X.w) (kvs := vs) (ep := ep) lo) (I.ok.hd hcalm) hat h16 fun h' tk acc hk hacc => ?_)
  have hal : acc.toList.length = ks.length := by rw [Array.length_toList, hacc.1, hl]
  have hS : IntsAre acc.toList ks := ints_each hal fun j v e => by
    obtain ⟨k, x, e1, e2⟩ := hacc.2 j v (by rw [← Array.getElem?_toList]; exact e)
    have e3 : (ks.map (Sum.inl : Int → Key))[j]? = some k := by rw [← hkeys, List.getElem?_map, e1]; rfl
    rw [List.getElem?_map] at e3
    cases e4 : ks[j]? with
    | none => rw [e4] at e3; cases e3
    | some y =>
      rw [e4] at e3
      cases e3
      rcases keyIs_shape (show keyIs (Sum.inl y) v = true from e2) with ⟨i, t, ek, ev⟩ | ⟨y', t, ek, _⟩
      · cases ek
        exact ⟨y, t, rfl, ev⟩
      · cases ek
  have I1 : Inv X pins σ H { s with heap := h', toks := tk } := I.kept hk
  refine wpAny_bind (wpAny_newList ?_ (by rw [hal, ← hl]; exact h16))
  have hoL : (h'.push (seqObj "list" acc.toList.toArray 0)).get? h'.objs.size = some (seqObj "list" acc.toList.toArray 0) := Heap.get?_push_size _ rfl
  show wpAny _ _ _ _ _ { s with heap := h'.push (seqObj "list" acc.toList.toArray 0), toks := tk }
  refine wpAny_bind (wpAny_holding (wpAny_call_entry PyProof.Rows.slot_list_sort ⟨_, hoL, rfl⟩ PyProof.Rows.entry_list_sort
    (SrtO.list_sort_ord (s := { s with heap := h'.push (seqObj "list" acc.toList.toArray 0), toks := tk }) SrtO.swo_int hoL (by rw [hal, ← hl]; exact h16) (fun h2 => SrtO.ints_sortable hS h2) fun out h1 h2 => ⟨.none, rfl, ?_⟩) (PyProof.Rows.args_list_sort _)))
  obtain ⟨k1, k2, k3⟩ := SrtO.ints_out hS h1 h2
  obtain ⟨e', he'⟩ := PyProof.Rows.sortedHeap_at (vs := acc.toList) (out := out.toArray) hoL
  have hlen : ((out.map SrtO.iv).map V.int).length ≤ sizeLine := by
    rw [List.length_map, k2.length_eq, ← hl]
    exact h16
  refine wpAny_pure ⟨_, rfl, .ref h'.objs.size, upd H h'.objs.size (.lst ((out.map SrtO.iv).map V.int)), I1.laid (t' := tk) (fun b u e => ?_) (Nat.le_refl _) ⟨hlen, out, e', vals_of_ints k1, he'⟩, rfl, q _ _ k2 k3 (I1.hok.fresh (Nat.le_refl _))⟩
  have hb : b < h'.objs.size := Heap.lt_size e
  rw [PyProof.Rows.sortedHeap_old (Nat.ne_of_lt hb) (by rw [size_push']; exact Nat.lt_succ_of_lt hb)]
  exact Heap.get?_push_of_some _ e
end
/-! ### defs of the text -/
/-- a def of the text, as it stands behind the top -/
def Dfn (K : PySem.W.Frag) (mg : PySem.Str → Option Value) (x : PySem.Str) (st : Stmt) : Prop := ∃ (f : Addr) (fd : FuncData), FunD K x x (defArgs st) (defBody st) (defScope st) [] [] f fd ∧ mg x = some (.ref f)
section
variable {P : Program} {w : World} {K : PySem.W.Frag} {mg : PySem.Str → Option Value} {base : Heap}
theorem mkCal {x : PySem.Str} {st : Stmt} {N ps : List PySem.Str} {k : Nat} {sp : Sp} (D : Dfn K mg x st)
    (hb : ∀ (kV doc pm : Value) (an : Option Addr) (cdv ct : Value) (us : List Value), us.length = ps.length → bindArgs (PySem.W.fnOf x x (defArgs st) (defBody st) (defScope st) .none kV doc pm an cdv ct) ⟨us, []⟩ = pure (ps.zip us))
    (S : FnScope N ps (defScope st)) (len : ∀ vs H Q E, sp vs H Q E → vs.length = ps.length)
    (hbody : ∀ (cdv : Value) (A : Around) (outer : List Env) (s : Shared) (H : Hp) (vs : List V) (Q : VK) (E : XK) (f : Addr), Room k (A.deeper (envOfC x (defScope st) s.heap.objs.size f cdv)) → sp vs H Q E →
      ∃ t, PSs (cxOf CX0 P w K mg base N x (defScope st) f cdv A outer s H E).nox (defBody st) t ∧ t { nx := fun _ H' => Q .non H', rt := Q } (start N vs) H) : C8.Cal P w K mg base (k + 1) x sp [] := by
  obtain ⟨f, fd, F, hm⟩ := D
  refine ⟨f, fd, ps, [], F.ok S len fun cdv A outer s H vs Q E hr h => ?_, hm, F.kp, F.bindsN hb, .nil⟩
  obtain ⟨t, h1, h2⟩ := hbody cdv A outer s H vs Q E f hr h
  exact ⟨t, h1.nox, h2⟩
end
/-- what the module's name x stands for -/
def GV (mg : PySem.Str → Option Value) (x : PySem.Str) (v : V) : Prop := ∃ u, mg x = some u ∧ RelV v u
/-- the facts of the module that the walks lean on -/
structure Gs (K : PySem.W.Frag) (mg : PySem.Str → Option Value) (w : World) : Prop where
  isinstance : mg "isinstance" = none
  int : mg "int" = none
  bool : mg "bool" = none
  str : mg "str" = none
  list : mg "list" = none
  tuple : mg "tuple" = none
  dict : mg "dict" = none
  len : mg "len" = none
  all : mg "all" = none
  any : mg "any" = none
  sum : mg "sum" = none
  max : mg "max" = none
  enumerate : mg "enumerate" = none
  sorted : mg "sorted" = none
  range : mg "range" = none
  MOST_LETTERS : GV mg "MOST_LETTERS" (.int 8)
  MOST_NAMES : GV mg "MOST_NAMES" (.int 40)
  MOST_DEPTH : GV mg "MOST_DEPTH" (.int 12)
  MOST_HEARD : GV mg "MOST_HEARD" (.int 40)
  MOST_STEPS : GV mg "MOST_STEPS" (.int 60000)
  SMALL : GV mg "SMALL" (.str "abcdefghijklmnopqrstuvwxyz")
  PAIR : GV mg "PAIR" (.str "pair")
  BOX : GV mg "BOX" (.str "box")
  HALF : GV mg "HALF" (.str "half")
  SHUT : GV mg "SHUT" (.str "shut")
  MARK : GV mg "MARK" (.str "mark")
  MIX : GV mg "MIX" (.str "mix")
  VAR : GV mg "VAR" (.str "var")
  AND : GV mg "AND" (.str " & ")
  HEARD : GV mg "HEARD" (.str "heard")
  LEFT : GV mg "LEFT" (.str "left")
  RIGHT : GV mg "RIGHT" (.str "right")
  UNBOX : GV mg "UNBOX" (.str "unbox")
  UNSHUT : GV mg "UNSHUT" (.str "unshut")
  READ : GV mg "READ" (.str "read")
  CHECK : GV mg "CHECK" (.str "check")
  NAMED : ∃ a, GV mg "NAMED" (.ref a) ∧ ∀ H, SqT K H a [.str "half", .str "shut", .str "mark"]
  LENGTHS : ∃ a es n, GV mg "LENGTHS" (.ref a) ∧ KDict K w a es n ∧ (∀ g : G1, ∃ u, PySem.W.nsIn K a g.s = some (some u) ∧ RelV (.int 2) u) ∧ ∀ g : G2, ∃ u, PySem.W.nsIn K a g.s = some (some u) ∧ RelV (.int 3) u
  ARITIES : ∃ a es n, GV mg "ARITIES" (.ref a) ∧ KDict K w a es n ∧ ∀ x k, (x, k) ∈ ([("pair", 2), ("box", 2), ("half", 1), ("shut", 2), ("mark", 2), ("mix", 1), ("left", 1), ("right", 1), ("unbox", 2), ("unshut", 2), ("read", 1), ("check", 2)] : List (PySem.Str × Int)) → ∃ u, PySem.W.nsIn K a x = some (some u) ∧ RelV (.int k) u
end Kt
/-! enumerate of a tuple. -/
namespace Kt
open PySem PySem.Spec PyProof.Rows L2
open AutoSeq1 (wpAny_loadPart')
section
variable {prog : Program} {w : World} {A : Around} {E : Value → Shared → Prop} {s : Shared}
theorem nextOf_tup_item {it t : Addr} {i : Nat} {items : Array Value} {x : Value} {Q : Value → Shared → Prop} (hit : s.heap.IsTupleIter it t i) (ht : s.heap.IsTuple t items) (hx : items[i]? = some x)
    (hQ : ∀ h', h'.IsTupleIter it t (i + 1) → Heap.SameBut it s.heap h' → Q x { s with heap := h' }) : wpAny (model prog w) A (Builtin.SmallTypes.nextOf (.ref it)) Q E s := by
  obtain ⟨o, ho, hc, hd⟩ := id hit
  obtain ⟨ol, hol, _, nl, hdl⟩ := ht
  unfold Builtin.SmallTypes.nextOf
  refine wpAny_bind (wpAny_callSpecial?_slot (name := Str.ofString "__next__") hit.typeIs F.slot_tuple_iterator_next (wpAny_call_entry F.slot_tuple_iterator_next hit.typeIs F.entry_tuple_iterator_next ?_ (F.args_tuple_iterator_next_1 _)))
  show wpAny _ _ (field (.ref it) 0 >>= _) _ _ s
  refine wpAny_bind (wpAny_field ho hd (x := .ref t) rfl ?_)
  show wpAny _ _ (if (Value.ref t == Value.none) = true then _ else _) _ _ s
  rw [if_neg (show ¬ ((Value.ref t == Value.none) = true) from Bool.false_ne_true)]
  show wpAny _ _ (field (.ref it) 1 >>= _) _ _ s
  refine wpAny_bind (wpAny_field ho hd (x := .int i 0) rfl ?_)
  show wpAny _ _ (seqItems? (.ref t) >>= _) _ _ s
  refine wpAny_bind (wpAny_seqItems hol hdl ?_)
  simp only [Int.toNat_natCast, hx]
  refine wpAny_bind (wpAny_setField ho hd (by simp) (wpAny_pure ⟨x, rfl, wpAny_pure (hQ _ ?_ (Heap.SameBut.update ..))⟩))
  exact ⟨_, Heap.get?_update_self _ ho (Obj.isFreed_of_fields (Obj.data_mapFields hd _)), (Obj.cls_mapFields ..).trans hc, by rw [Obj.data_mapFields hd]; simp [rawInt]⟩
theorem nextOf_tup_end {it t : Addr} {i : Nat} {items : Array Value} {Q : Value → Shared → Prop} (hh : A.handled = none) (hit : s.heap.IsTupleIter it t i) (ht : s.heap.IsTuple t items) (hx : items[i]? = none)
    (hE : ∀ h' e, Heap.ExtBut it s.heap h' → (∃ o, h'.get? e = some o ∧ o.cls = .type "StopIteration") → E (.ref e) { s with heap := h' }) : wpAny (model prog w) A (Builtin.SmallTypes.nextOf (.ref it)) Q E s := by
  obtain ⟨o, ho, hc, hd⟩ := id hit
  obtain ⟨ol, hol, _, nl, hdl⟩ := ht
  unfold Builtin.SmallTypes.nextOf
  refine wpAny_bind (wpAny_callSpecial?_slot (name := Str.ofString "__next__") hit.typeIs F.slot_tuple_iterator_next (wpAny_call_entry F.slot_tuple_iterator_next hit.typeIs F.entry_tuple_iterator_next ?_ (F.args_tuple_iterator_next_1 _)))
  show wpAny _ _ (field (.ref it) 0 >>= _) _ _ s
  refine wpAny_bind (wpAny_field ho hd (x := .ref t) rfl ?_)
  show wpAny _ _ (if (Value.ref t == Value.none) = true then _ else _) _ _ s
  rw [if_neg (show ¬ ((Value.ref t == Value.none) = true) from Bool.false_ne_true)]
  show wpAny _ _ (field (.ref it) 1 >>= _) _ _ s
  refine wpAny_bind (wpAny_field ho hd (x := .int i 0) rfl ?_)
  show wpAny _ _ (seqItems? (.ref t) >>= _) _ _ s
  refine wpAny_bind (wpAny_seqItems hol hdl ?_)
  simp only [Int.toNat_natCast, hx]
  refine wpAny_bind (wpAny_rule (wpAny_bind (wpAny_setField ho hd (by simp) ?_)))
  show wpAny _ _ (newExc (.type "StopIteration") [] >>= _) _ _ _
  refine wpAny_bind ?_
  simp only [newExc, newTuple]
  refine wpAny_bind (wpAny_newObj_type ?_ (by size_fits))
  refine wpAny_bind (m := firstArgMember _ _) (wpAny_of_eq (a := Value.none) (by first | rfl | (simp only [firstArgMember]; rfl)) ?_)
  refine wpAny_newObj_type ?_ (by size_fits)
  simp only [raiseNew]
  refine wpAny_bind (wpAny_handled ?_)
  first | rw [show A.in1.handled = none from hh] | rw [hh]
  refine wpAny_bind (wpAny_pure (wpAny_throw ?_))
  exact hE _ _ (((Heap.SameBut.update ..).extBut.push _).push _) ⟨_, Heap.get?_push_size _ rfl, rfl⟩
end
theorem draws_tup {prog : Program} {w : World} {A : Around} (hh : A.handled = none) (it l : Addr) (hne : l ≠ it) (items : Array Value) :
    Draws prog w A it [it, l] items.size (fun i v => items[i]? = some v) (fun i h => h.IsTupleIter it l i ∧ h.IsTuple l items) where
  live := fun _ _ st => let ⟨o, ho, _⟩ := st.1; ⟨o, ho⟩
  frame := fun _ _ _ st hk => ⟨st.1.at fun o e => hk it (by simp) o e, let ⟨o, ho, r⟩ := st.2; ⟨o, hk l (by simp) o ho, r⟩⟩
  item := fun i s Q E hi st hQ => by
    refine nextOf_tup_item st.1 st.2 (x := items[i]) (by simp [hi]) fun h' hit' hs' => ?_
    exact hQ _ h' s.toks (by simp [hi]) ⟨hit', st.2.extBut hs'.extBut hne⟩ hs'
  done := fun s Q E st hE => nextOf_tup_end hh st.1 st.2 (by simp) hE
theorem meets_enum_tup (l : Addr) (items : Array Value) (n : Nat) (dct : Option Addr) (sl : Array (Option Value)) :
    Meets (Builtin.«enumerate.__new__» ⟨[.type "enumerate", .ref l], []⟩) (fun _ R s => s.heap.get? l = some { cls := .type "tuple", dict := dct, data := .seq items n, slots := sl } ∧
      R (.ok (.ret (.ref (s.heap.push { cls := .type "tuple_iterator", data := .fields #[.ref l, .int 0 0] }).objs.size)))
        { s with heap := (s.heap.push { cls := .type "tuple_iterator", data := .fields #[.ref l, .int 0 0] }).push { cls := .type "enumerate", data := .fields #[.none, .bool false, .ref s.heap.objs.size, rawInt 0, .none, .none] } }) :=
  .of_wp fun prog w A R s h => by
    obtain ⟨hp, g, d, tk, os⟩ := s; obtain ⟨hl, h⟩ := h
    have hsub := sub_enumerate
    have hL : Heap.IsTuple (Shared.heap ⟨hp, g, d, tk, os⟩) l items := ⟨_, hl, rfl, n, rfl⟩
    wp_walk using wpAny_loadPart' hl
    refine wpAny_stack_any fun st => wpAny_pure ?_
    split
    · rename_i c _ _ _ _ _
      cases (c == Value.type "enumerate")
      · wp_walk using wpAny_loadPart' hl, wpAny_pyIter_tuple hL
        exact ⟨_, rfl, h⟩
      · wp_walk using wpAny_loadPart' hl, wpAny_pyIter_tuple hL
        exact ⟨_, rfl, h⟩
    · wp_walk using wpAny_loadPart' hl, wpAny_pyIter_tuple hL
      exact ⟨_, rfl, h⟩
section
variable {prog : Program} {w : World} {A : Around} {E : Value → Shared → Prop} {s : Shared}
theorem call_enum_tup {l : Addr} {items : Array Value} {Q : Value → Shared → Prop} (hL : s.heap.IsTuple l items)
    (h : ∀ h', IsEnum h' (s.heap.objs.size + 1) s.heap.objs.size 0 .none → h'.IsTupleIter s.heap.objs.size l 0 → h'.objs.size = s.heap.objs.size + 2 →
      (∀ b o, s.heap.get? b = some o → h'.get? b = some o) → Q (.ref (s.heap.objs.size + 1)) { s with heap := h' }) :
    wpAny (model prog w) A (call (.type "enumerate") [.ref l]) Q E s := by
  obtain ⟨⟨c, dct, dt, sl⟩, hl, hc, n, hd⟩ := hL
  replace hc : c = .type "tuple" := hc
  replace hd : dt = .seq items n := hd
  subst hc hd
  refine callType_new F.called_enumerate (by decide) (F.typeCall_enumerate_1 _) (F.newCall_enumerate_1 _) (fun obj => F.args_object_init_2 obj _) F.entry_enumerate_new
    (meets_enum_tup l items n dct sl) ⟨hl, ?_⟩
  have hz : (s.heap.push { cls := .type "tuple_iterator", data := .fields #[.ref l, .int 0 0] }).objs.size = s.heap.objs.size + 1 := Heap.size_push ..
  show _ ∧ _
  rw [hz]
  have he : IsEnum ((s.heap.push { cls := .type "tuple_iterator", data := .fields #[.ref l, .int 0 0] }).push
      { cls := .type "enumerate", data := .fields #[.none, .bool false, .ref s.heap.objs.size, rawInt 0, .none, .none] }) (s.heap.objs.size + 1) s.heap.objs.size 0 .none := by
    have := Heap.get?_push_size (s.heap.push { cls := .type "tuple_iterator", data := .fields #[.ref l, .int 0 0] })
      (o := { cls := .type "enumerate", data := .fields #[.none, .bool false, .ref s.heap.objs.size, rawInt 0, .none, .none] }) rfl
    rw [hz] at this; exact this
  refine ⟨⟨_, he, rfl⟩, h _ he ⟨_, Heap.get?_push_of_some _ (Heap.get?_push_size _ rfl), rfl, rfl⟩ (by rw [Heap.size_push, hz]) fun b o x => Heap.get?_push_of_some _ (Heap.get?_push_of_some _ x)⟩
end
def ItEt (K : PySem.W.Frag) (a : Addr) : It :=
  ⟨fun i H => ∃ (xs : List V) (x : V), SqT K H a xs ∧ xs[i]? = some x, fun i H v H' => ∃ T x, v = .ref T ∧ H T = none ∧ H' = upd H T (.tup [.int (i : Nat), x]) ∧ ∀ xs, SqT K H a xs → xs[i]? = some x, fun i H => ∃ xs : List V, SqT K H a xs ∧ xs.length = i⟩
theorem turn_enumT {P : Program} {w : World} {K : PySem.W.Frag} {elts : List Expr} {kk : Nat} {tpos : Pos} (a e it : Addr) :
    Turn P w K (.Tuple elts kk tpos) (ItEt K a) [e, it] e (fun i h => (∃ old, IsEnum h e it ((i : Nat) : Int) old) ∧ h.IsTupleIter it a i ∧ e ≠ it ∧ a ≠ it ∧ e ≠ a) where
  mem := by simp
  obj := fun i h st b hb => by
    obtain ⟨⟨old, he⟩, ⟨o, ho, hc, hd⟩, _⟩ := st
    have e' : b = e ∨ b = it := by simpa using hb
    rcases e' with z | z
    · rw [z]; exact ⟨_, he, fun v q => nomatch q⟩
    · rw [z]; exact ⟨o, ho, fun v q => by rw [hd] at q; cases q⟩
  keep := fun i h h' st k => let ⟨⟨old, he⟩, hi, hne⟩ := st; ⟨⟨old, k e (by simp) _ he⟩, hi.at fun o q => k it (by simp) o q, hne⟩
  item := by
    intro X hP hw hK hc i pins s σ H E I hf st hg
    subst hP hw hK
    obtain ⟨⟨old, he⟩, hit, hne, hai, hea⟩ := st
    obtain ⟨xs, x, hq, hx⟩ := hg
    obtain ⟨its, rv, p, hz⟩ := I.tuple hq
    obtain ⟨u, hu, ru⟩ := rv.get hx
    have hel : e < s.heap.objs.size := Heap.lt_size he
    have hil : it < s.heap.objs.size := by obtain ⟨_, q, _⟩ := hit; exact Heap.lt_size q
    have hlt : i < its.toArray.size := by
      have := rv.length
      have h2 := List.getElem?_eq_some_iff.mp hx
      obtain ⟨h3, _⟩ := h2
      simp; omega
    have p' : s.heap.IsTuple a its.toArray := p
    refine wpAny_pyNext_enum_itemD (draws_tup (A := X.A.in1) (I.ok.hd hc) it a hai its.toArray) he ⟨hit, p'⟩ hlt hne (by simp [hne, hea]) fun x' h' tk hx' ho hit' hT hsz hk => ?_
    have ex : x' = u := by
      have h1 : its.toArray[i]? = some u := by simpa using hu
      rw [h1] at hx'
      exact (Option.some.inj hx').symm
    subst ex
    refine ⟨_, rfl, wpAny_letOwnedTupleGo_enum (s := { s with heap := h', toks := tk + 1 }) ho fun h'' he' sb => ?_⟩
    have hT2 : h''.get? s.heap.objs.size = some { cls := .type "tuple", data := .seq #[.int i tk, x'] } := (sb.2 _ (Nat.ne_of_gt hel)).trans hT
    have new : ObjOk X.prog X.w (upd H s.heap.objs.size (.tup [.int (i : Nat), x])) h'' s.heap.objs.size (.tup [.int (i : Nat), x]) :=
      ⟨by show 2 ≤ sizeLine; decide, [.int i tk, x'], .cons ⟨_, rfl⟩ (.cons ru .nil), ⟨_, hT2, rfl, _, rfl⟩⟩
    have I1 : Inv X pins σ (upd H s.heap.objs.size (.tup [.int (i : Nat), x])) { s with heap := h'', toks := tk + 1 } :=
      I.turnedNew (ch := [e, it]) (fun b ob hb q => (sb.2 b (fun z => hb (by simp [z]))).trans (hk b ob (fun z => hb (by simp [z])) (fun z => hb (by simp [z])) q)) hf (Nat.le_refl _) new
    refine ⟨.ref s.heap.objs.size, _, I1, rfl, ⟨_, x, rfl, I.hok.fresh (Nat.le_refl _), rfl, fun ys hy => by rw [I.tuple_inj hy hq]; exact hx⟩, ⟨⟨x', ?_⟩, hit'.1.at fun o q => (sb.2 it (Ne.symm hne)).trans q, hne, hai, hea⟩, fun b hb => ?_⟩
    · have e1 : ((i + 1 : Nat) : Int) = (i : Int) + 1 := by omega
      rw [e1]; exact he'
    · have hb' : b < s.heap.objs.size := by
        have e' : b = e ∨ b = it := by simpa using hb
        rcases e' with z | z
        · rw [z]; exact hel
        · rw [z]; exact hil
      rw [upd_ne (Nat.ne_of_lt hb')]
      exact (hf b hb).1
  done := by
    intro X hP hw hK hc i pins s σ H E I hf st hg
    subst hP hw hK
    obtain ⟨⟨old, he⟩, hit, hne, hai, hea⟩ := st
    obtain ⟨xs, hq, hx⟩ := hg
    obtain ⟨its, rv, p, hz⟩ := I.tuple hq
    obtain ⟨f0, f1, f2, f3, f4, f5⟩ := hf it (by simp)
    have hl := rv.length
    have hs : i = its.toArray.size := by simp; omega
    have p' : s.heap.IsTuple a its.toArray := p
    exact wpAny_pyNext_enum_endD (draws_tup (A := X.A.in1) (I.ok.hd hc) it a hai its.toArray) he (by rw [← hs]; exact ⟨hit, p'⟩) fun h' eb => ⟨rfl, I.turned (t' := s.toks) (fun b o hb q => eb b o hb q) f0 f1 f3 f4 f5⟩
  self := fun A i s Q E st h => let ⟨⟨_, he⟩, _⟩ := st; wpAny_pyIter_enum he h
def iEnumT (K : PySem.W.Frag) (ta : TA) : TI := fun σ H R => ta σ H fun vs H1 => ∃ a xs, vs = [.ref a] ∧ SqT K H1 a xs ∧ R (ItEt K a) H1
theorem pi_enumT {X : Cx} {e : Expr} {ta : TA} {p pos tpos : Pos} {elts : List Expr} {kk : Nat} (hg : Gl X "enumerate") (hm : X.mg "enumerate" = none) (ha : PA X [e] ta) (hs : starEach [e] X.env = [(false, eval e X.env)] := by rfl) :
    PI X (.Tuple elts kk tpos) (.Call (.Name "enumerate" p) [e] [] pos) (iEnumT X.K ta) := by
  refine ⟨fun pins s σ H R I h => ?_⟩
  refine Call_ (ld_blt I hg hm boot_enumerate (PyProof.Rows.callWith_type1 (thn (ha.run pos pins s σ H _ I h) fun us s1 ⟨vs, H1, I1, r1, q1⟩ => ?_) hs rfl))
  obtain ⟨a, xs, ex, hq, q⟩ := q1
  subst ex
  cases r1 with
  | cons r rr =>
    cases rr
    cases r
    obtain ⟨its, rv, p', hz⟩ := I1.tuple hq
    have al : a < s1.heap.objs.size := by obtain ⟨_, q, _⟩ := p'; exact Heap.lt_size q
    refine call_enum_tup (show s1.heap.IsTuple a its.toArray from p') fun h' he hit hsz hk => wpAny_pyIter_enum he ?_
    have I2 : Inv X pins σ H1 { s1 with heap := h' } := I1.kept (t' := s1.toks) hk
    refine ⟨s1.heap.objs.size + 1, [s1.heap.objs.size + 1, s1.heap.objs.size], _, _, H1, rfl, I2, turn_enumT a (s1.heap.objs.size + 1) s1.heap.objs.size, ⟨⟨.none, he⟩, hit, Nat.succ_ne_self _, Nat.ne_of_lt al, Ne.symm (Nat.ne_of_lt (Nat.lt_succ_of_lt al))⟩, fun b hb => ?_, q⟩
    have e' : b = s1.heap.objs.size + 1 ∨ b = s1.heap.objs.size := by simpa using hb
    have hle : s1.heap.objs.size ≤ b := by
      rcases e' with z | z
      · rw [z]; exact Nat.le_add_right _ _
      · rw [z]; exact Nat.le_refl _
    exact I1.fpOk hle (I1.hok.fresh hle)
theorem walk_enumT {K : PySem.W.Frag} {a : Addr} {xs : List V} : Walk (ItEt K a) xs.length (fun H => SqT K H a xs) (YPair (fun i => some (.int (i : Nat))) (fun i => xs[i]?)) := by
  refine ⟨fun i _ hi q => ⟨xs, xs[i], q, by simp [hi]⟩, fun _ q => ⟨xs, q, rfl⟩, fun i H v H' _ q y => ?_⟩
  obtain ⟨T, x, h1, h2, h3, h4⟩ := y
  exact ⟨T, .int (i : Nat), x, h1, h2, h3, rfl, h4 xs q⟩
end Kt
/-! More rules in short. -/
namespace Kt
open PySem PySem.Spec PyProof.Rows L2
open Tm
section
variable {X : Cx}
theorem boot_kn (b : Kn) (h : b ≠ .non) : bootBuiltins (Str.ofString b.n) = some (.type b.n) := by
  cases b <;> first | exact absurd rfl h | decide +kernel
/-- the name of a kind -/
theorem pe_kn (b : Kn) {x : PySem.Str} {pos : Pos} (hg : Gl X x) (hm : X.mg x = none) (hx : x = Str.ofString b.n := by rfl) (h : b ≠ .non := by decide) : PE X (.Name x pos) (tC (.ty b.n)) := by
  subst hx
  have hx : ∀ b : Kn, b ≠ .non → Str.ofString b.n ≠ "__name__" ∧ (Str.ofString b.n == ("__debug__" : PySem.Str)) = false := by
    intro b h
    cases b <;> first | exact absurd rfl h | (constructor <;> decide +kernel)
  exact pe_bltn hg hm (boot_kn b h) rfl (hx b h).1 (hx b h).2
theorem hu1 {k : Nat} {A : Around} (hr : Room k A) : A.units + 1 < cLine := by have := hr.un; omega
theorem hu65 {k : Nat} {A : Around} (hr : Room k A) : A.units + 65 < cLine := by have := hr.un; omega
end
/-! ### heaps -/
theorem sUp {H : Hp} {p : Addr} {o : HO} (hp : H p = none) : Same H (upd H p o) := fun b u e => by
  rw [upd_ne (fun z => by subst z; rw [hp] at e; cases e)]
  exact e
/-- all that was tracked is as it was, but at the places S -/
def SamX (S : Addr → Prop) (H H' : Hp) : Prop := ∀ b o, ¬ S b → H b = some o → H' b = some o
theorem SamX.refl (S : Addr → Prop) (H : Hp) : SamX S H H := fun _ _ _ h => h
theorem SamX.trans {S : Addr → Prop} {H H1 H2 : Hp} (a : SamX S H H1) (b : SamX S H1 H2) : SamX S H H2 := fun c o n h => b c o n (a c o n h)
theorem Same.x {H H' : Hp} (S : Addr → Prop) (h : Same H H') : SamX S H H' := fun b o _ e => h b o e
theorem SamX.same {H H' : Hp} (h : SamX (fun _ => False) H H') : Same H H' := fun b o e => h b o id e
theorem SamX.up {S : Addr → Prop} {H H' : Hp} {p : Addr} {o : HO} (h : SamX S H H') (hp : H p = none) : SamX S H (upd H' p o) := fun b u n e => by
  rw [upd_ne (fun z => by subst z; rw [hp] at e; cases e)]
  exact h b u n e
theorem tups_up {H : Hp} {p : Addr} {o : HO} (h : ∀ xs, H p ≠ some (.tup xs)) : Tups H (upd H p o) := fun b xs e => by
  rw [upd_ne (fun z => by subst z; exact h xs e)]
  exact e
theorem Tups.trans {H H1 H2 : Hp} (a : Tups H H1) (b : Tups H1 H2) : Tups H H2 := fun p xs e => b p xs (a p xs e)
theorem Tups.refl (H : Hp) : Tups H H := fun _ _ e => e
theorem SamX.tups {S : Addr → Prop} {H H' : Hp} (h : SamX S H H') (hs : ∀ a, S a → ∀ xs, H a ≠ some (.tup xs)) : Tups H H' := fun p xs e => h p _ (fun s => hs p s xs e) e
/-! ### a comprehension, told item by item -/
theorem lc_mapX {J : It} {n : Nat} {G : Hp → Prop} {Y : Nat → Hp → V → Hp → Prop} (w : Walk J n G Y) {g : TG} {te : TE} {vs : List Nat} {σ : L2.St} {H1 : Hp} {D : Addr} {Qd : Hp → Prop} (S : Addr → Prop) (I : Hp → Prop) (Rr : Nat → Hp → V → Prop)
    (hn : n < sizeLine) (hD : H1 D = none) (hS : ∀ a, S a → H1 a ≠ none ∧ ∀ H, I H → ∀ xs, H a ≠ some (.tup xs)) (hI : ∀ H o, I H → I (upd H D o)) (h0 : I H1) (mono : ∀ i H H' v, Tups H H' → Rr i H v → Rr i H' v) (hG : ∀ H, SamX S H1 H → I H → G H)
    (hs : ∀ i x H H' (N : V → Hp → Prop), i < n → SamX S H1 H → I H → Y i H x H' → (∀ y H4, SamX S H H4 → I H4 → Rr i H4 y → N y H4) → g x (wipe σ vs) H' fun σ2 H2 => wipe σ2 vs = wipe σ vs ∧ te σ2 H2 N)
    (hd : ∀ H acc, SamX S H1 H → I H → H D = some (.lst acc) → acc.length = n → (∀ i v, acc[i]? = some v → Rr i H v) → Qd H) :
    ∃ W : Nat → Nat → Hp → Prop, (∃ m, W 0 m (upd H1 D (.lst []))) ∧ ∀ i m H, W i m H →
      (J.stop i H ∧ Qd H) ∨ (J.go i H ∧ ∃ Nx : Hp → Prop, (∀ H', Nx H' → ∃ m', m' < m ∧ W (i + 1) m' H') ∧ ∀ x H', J.yld i H x H' → g x (wipe σ vs) H' fun σ2 H2 => wipe σ2 vs = wipe σ vs ∧ tYes σ2 H2 fun b H3 =>
        if b = true then te σ2 H3 fun y H4 => ∃ acc, H4 D = some (.lst acc) ∧ acc.length < sizeLine ∧ Nx (upd H4 D (.lst (acc ++ [y]))) else Nx H3) := by
  have hDS : ¬ S D := fun s => (hS D s).1 hD
  refine lc_it w (fun i H => SamX S H1 H ∧ I H ∧ ∃ acc, H D = some (.lst acc) ∧ acc.length = i ∧ ∀ j v, acc[j]? = some v → Rr j H v) ⟨(SamX.refl S H1).up hD, hI _ _ h0, [], upd_same, rfl, fun j v e => by simp at e⟩ (fun i H _ p => hG H p.1 p.2.1) (fun i x H H' lt p y => ?_) (fun H p => ?_)
  · obtain ⟨k, q, acc, ha, hl, hr⟩ := p
    refine hs i x H H' _ lt k q y fun z H4 k4 q4 r4 => ⟨acc, k4 D _ hDS ha, by omega, (k.trans k4).up hD, hI _ _ q4, acc ++ [z], upd_same, by simp [hl], fun j v e => ?_⟩
    have tu : Tups H4 (upd H4 D (.lst (acc ++ [z]))) := tups_up fun xs e => by rw [k4 D _ hDS ha] at e; cases e
    refine mono j H4 _ v tu ?_
    by_cases hj : j < acc.length
    · rw [List.getElem?_append_left hj] at e
      exact mono j H H4 v (k4.tups fun a s => (hS a s).2 H q) (hr j v e)
    · rw [List.getElem?_append_right (by omega)] at e
      have ej : j = acc.length := by
        cases hk : j - acc.length with
        | zero => omega
        | succ m => rw [hk] at e; simp at e
      subst ej
      simp at e
      subst e
      rw [hl]
      exact r4
  · obtain ⟨k, q, acc, ha, hl, hr⟩ := p
    exact hd H acc k q ha hl hr
theorem lc_map {J : It} {n : Nat} {G : Hp → Prop} {Y : Nat → Hp → V → Hp → Prop} (w : Walk J n G Y) {g : TG} {te : TE} {vs : List Nat} {σ : L2.St} {H1 : Hp} {D : Addr} {Qd : Hp → Prop} (Rr : Nat → Hp → V → Prop)
    (hn : n < sizeLine) (hD : H1 D = none) (mono : ∀ i H H' v, Tups H H' → Rr i H v → Rr i H' v) (hG : ∀ H, Same H1 H → G H)
    (hs : ∀ i x H H' (N : V → Hp → Prop), i < n → Same H1 H → Y i H x H' → (∀ y H4, Same H H4 → Rr i H4 y → N y H4) → g x (wipe σ vs) H' fun σ2 H2 => wipe σ2 vs = wipe σ vs ∧ te σ2 H2 N)
    (hd : ∀ H acc, Same H1 H → H D = some (.lst acc) → acc.length = n → (∀ i v, acc[i]? = some v → Rr i H v) → Qd H) :
    ∃ W : Nat → Nat → Hp → Prop, (∃ m, W 0 m (upd H1 D (.lst []))) ∧ ∀ i m H, W i m H →
      (J.stop i H ∧ Qd H) ∨ (J.go i H ∧ ∃ Nx : Hp → Prop, (∀ H', Nx H' → ∃ m', m' < m ∧ W (i + 1) m' H') ∧ ∀ x H', J.yld i H x H' → g x (wipe σ vs) H' fun σ2 H2 => wipe σ2 vs = wipe σ vs ∧ tYes σ2 H2 fun b H3 =>
        if b = true then te σ2 H3 fun y H4 => ∃ acc, H4 D = some (.lst acc) ∧ acc.length < sizeLine ∧ Nx (upd H4 D (.lst (acc ++ [y]))) else Nx H3) :=
  lc_mapX w (fun _ => False) (fun _ => True) Rr hn hD (fun a s => s.elim) (fun _ _ h => h) trivial mono (fun H k _ => hG H k.same) (fun i x H H' N lt k _ y q => hs i x H H' N lt k.same y fun z H4 (k4 : Same H H4) r => q z H4 (Same.x _ k4) trivial r) (fun H acc k _ => hd H acc k.same)
/-- a list known by a function of the place -/
theorem ext_at {α : Type} {l m : List α} (hl : l.length = m.length) (h : ∀ (i : Nat) (v u : α), l[i]? = some v → m[i]? = some u → v = u) : l = m := by
  refine List.ext_getElem hl fun i h1 h2 => ?_
  exact h i _ _ (List.getElem?_eq_getElem h1) (List.getElem?_eq_getElem h2)
theorem paired_of {α β : Type} {F : α → β → Prop} : ∀ {l : List α} {m : List β}, l.length = m.length → (∀ (i : Nat) (a : α) (b : β), l[i]? = some a → m[i]? = some b → F a b) → Paired F l m
  | [], [], _, _ => .nil
  | [], _ :: _, e, _ => by cases e
  | _ :: _, [], e, _ => by cases e
  | a :: l, b :: m, e, h => .cons (h 0 a b rfl rfl) (paired_of (Nat.succ.inj e) fun i x y hx hy => h (i + 1) x y hx hy)
end Kt
/-! A term as a tuple; short steps of readings. -/
namespace Kt
open PySem PySem.Spec PyProof.Rows L2
open Tm
theorem ifT {c : Bool} {A B : Prop} (h : c = true) (a : A) : if c = true then A else B := by subst h; exact iteT a
theorem ifF {c : Bool} {A B : Prop} (h : c = false) (b : B) : if c = true then A else B := by subst h; exact iteF b
theorem at0 {α : Type} {a : α} {l : List α} : atI (a :: l) 0 = some a := atI_nat (j := 0) rfl
theorem at1 {α : Type} {a b : α} {l : List α} : atI (a :: b :: l) 1 = some b := atI_nat (j := 1) rfl
theorem at2 {α : Type} {a b c : α} {l : List α} : atI (a :: b :: c :: l) 2 = some c := atI_nat (j := 2) rfl
theorem le_line {n : Nat} (h : n ≤ 100000) : n ≤ sizeLine := Nat.le_trans h (by decide)
theorem lt_line {n : Nat} (h : n ≤ 100000) : n < sizeLine := Nat.lt_of_le_of_lt h (by decide)
abbrev tNo : TO := fun _ H Q => Q none H
theorem po_no {X : Cx} : PO X none tNo := po_none
/-- t[1:] -/
theorem sl1 {K : PySem.W.Frag} {H : Hp} {p : Addr} {a : V} {ks : List V} {Q : VK} (h : SqT K H p (a :: ks)) (q : ∀ p', H p' = none → Q (.ref p') (upd H p' (.tup ks))) : rSlT K (.ref p) (some 1) none H Q := by
  have e1 : HT.sIx (a :: ks).length 0 (some 1) = 1 := by
    unfold HT.sIx
    simp
  have e2 : HT.sIx (a :: ks).length (a :: ks).length none = (a :: ks).length := by
    unfold HT.sIx
    rfl
  have e3 : cutV (a :: ks) (some 1) none = ks := by
    unfold cutV
    rw [e1, e2]
    simp
  refine ⟨p, a :: ks, rfl, h, fun z => ?_, fun p' hp => ?_⟩
  · rw [e1] at z
    exact absurd z.1 (by decide)
  · rw [e3]
    exact q p' hp
def rLenSeq (K : PySem.W.Frag) : List V → Hp → VK → Prop := fun xs H Q => ∃ p ys, xs = [.ref p] ∧ (SqL K H p ys ∨ SqT K H p ys) ∧ Q (.int ys.length) H
def rTupOf (K : PySem.W.Frag) : List V → Hp → VK → Prop := fun xs H Q => ∃ p ys, xs = [.ref p] ∧ ((SqL K H p ys ∧ ∀ l, H l = none → Q (.ref l) (upd H l (.tup ys))) ∨ (SqT K H p ys ∧ Q (.ref p) H))
def rLenTd (w : World) : List V → Hp → VK → Prop := fun xs H Q => ∃ d l, xs = [V.ref d] ∧ TD w H d l ∧ Q (.int l.length) H
namespace Tm
def hd : Tm → PySem.Str
  | nm x => x
  | un g _ => g.s
  | bi g _ _ => g.s
end Tm
theorem tm_tup {H : Hp} {t : Tm} {v : V} (h : TmV H t v) (nn : t.isNm = false) : ∃ p ks, v = .ref p ∧ H p = some (.tup (.str t.hd :: ks)) ∧ TmVs H t.kids ks := by
  cases t with
  | nm x => cases nn
  | un g a =>
    obtain ⟨p, va, rfl, hp, ha⟩ := h
    exact ⟨p, [va], rfl, hp, .cons ha .nil⟩
  | bi g a b =>
    obtain ⟨p, va, vb, rfl, hp, ha, hb⟩ := h
    exact ⟨p, [va, vb], rfl, hp, .cons ha (.cons hb .nil)⟩
theorem tm_of {H : Hp} {t : Tm} {p : Addr} {ks : List V} (hp : H p = some (.tup (.str t.hd :: ks))) (nn : t.isNm = false) (h : TmVs H t.kids ks) : TmV H t (.ref p) := by
  cases t with
  | nm x => cases nn
  | un g a =>
    cases h with
    | cons h1 h2 =>
      cases h2
      exact ⟨p, _, rfl, hp, h1⟩
  | bi g a b =>
    cases h with
    | cons h1 h2 =>
      cases h2 with
      | cons h2 h3 =>
        cases h3
        exact ⟨p, _, _, rfl, hp, h1, h2⟩
theorem tm_nm {H : Hp} {x : PySem.Str} {v : V} (h : TmV H (.nm x) v) : v = .str x := h
theorem tmNm {H : Hp} {t : Tm} {v : V} (h : TmV H t v) (e : t.isNm = true) : ∃ x, t = .nm x ∧ v = .str x := by
  cases t with
  | nm x => exact ⟨x, rfl, h⟩
  | un _ _ => cases e
  | bi _ _ _ => cases e
theorem kdT {H : Hp} {t : Tm} {v : V} (h : TmV H t v) (e : t.isNm = true) : Kd H v .str := by
  have := Kd.tm h
  rw [if_pos e] at this
  exact this
theorem kdF {H : Hp} {t : Tm} {v : V} (h : TmV H t v) (e : t.isNm = false) : Kd H v .tup := by
  have := Kd.tm h
  rw [if_neg (by rw [e]; exact Bool.false_ne_true)] at this
  exact this
/-- a list of bools -/
theorem boolsL {acc : List V} {n : Nat} {b : Nat → Bool} (hl : acc.length = n) (h : ∀ (i : Nat) (v : V), acc[i]? = some v → v = .bl (b i)) : acc = ((List.range n).map b).map V.bl := by
  refine ext_at (by simp [hl]) fun i v u e1 e2 => ?_
  rw [h i v e1]
  have hi : i < n := by rw [← hl]; exact (List.getElem?_eq_some_iff.mp e1).1
  rw [List.getElem?_map, List.getElem?_map, List.getElem?_range hi] at e2
  exact Option.some.inj e2
theorem intsL {acc : List V} {n : Nat} {b : Nat → Int} (hl : acc.length = n) (h : ∀ (i : Nat) (v : V), acc[i]? = some v → v = .int (b i)) : acc = ((List.range n).map b).map V.int := by
  refine ext_at (by simp [hl]) fun i v u e1 e2 => ?_
  rw [h i v e1]
  have hi : i < n := by rw [← hl]; exact (List.getElem?_eq_some_iff.mp e1).1
  rw [List.getElem?_map, List.getElem?_map, List.getElem?_range hi] at e2
  exact Option.some.inj e2
theorem strsL {acc : List V} {n : Nat} {b : Nat → PySem.Str} (hl : acc.length = n) (h : ∀ (i : Nat) (v : V), acc[i]? = some v → v = .str (b i)) : acc = ((List.range n).map b).map V.str := by
  refine ext_at (by simp [hl]) fun i v u e1 e2 => ?_
  rw [h i v e1]
  have hi : i < n := by rw [← hl]; exact (List.getElem?_eq_some_iff.mp e1).1
  rw [List.getElem?_map, List.getElem?_map, List.getElem?_range hi] at e2
  exact Option.some.inj e2
end Kt
namespace Kt
open PySem PySem.Spec PyProof.Rows L2
/-! ### the text by places -/
def top (i : Nat) : Stmt := PySem.Challenge.pw_sealedtalk_k14_whole_hearings_renamed.main.body.getD i (.Pass ⟨0, 0, 0, 0⟩)
abbrev s_is_integer : Stmt := top 3
abbrev s_is_between : Stmt := top 4
abbrev s_is_name : Stmt := top 5
abbrev s_is_row : Stmt := top 6
abbrev s_is_name_dict : Stmt := top 7
abbrev s_is_leaf : Stmt := top 26
abbrev s_measure : Stmt := top 27
abbrev s_has_form : Stmt := top 28
abbrev s_is_term : Stmt := top 29
abbrev s_check_term : Stmt := top 30
abbrev s_replaced : Stmt := top 31
abbrev s_renamed : Stmt := top 32
abbrev s_spelled : Stmt := top 35
abbrev s_by_wordings : Stmt := top 36
abbrev s_good_hearing : Stmt := top 39
abbrev s_pieces : Stmt := top 40
abbrev s_is_built : Stmt := top 41
abbrev s_openings : Stmt := top 42
abbrev s_least_closed : Stmt := top 43
abbrev s_can_make : Stmt := top 44
abbrev s_opened : Stmt := top 45
abbrev s_closed_paper : Stmt := top 46
abbrev s_is_closed_paper : Stmt := top 47
abbrev s_is_recipe_step : Stmt := top 58
abbrev s_is_recipe : Stmt := top 59
abbrev s_check_recipe : Stmt := top 60
abbrev s_built_term : Stmt := top 61
abbrev s_opened_term : Stmt := top 62
abbrev s_played_step : Stmt := top 63
abbrev s_played : Stmt := top 64
abbrev s_pruned : Stmt := top 65
abbrev s_recipe_for : Stmt := top 67
abbrev s_law_bag : Stmt := top 69
abbrev s_law_draw : Stmt := top 70
abbrev s_law_same : Stmt := top 71
abbrev s_law_names : Stmt := top 72
abbrev s_law_pick : Stmt := top 73
abbrev s_law_leaf : Stmt := top 74
abbrev s_law_pattern : Stmt := top 75
abbrev s_law_term : Stmt := top 76
abbrev s_law_parts : Stmt := top 77
abbrev s_law_hearing : Stmt := top 78
abbrev s_law_spelled : Stmt := top 79
abbrev s_law_ascending : Stmt := top 80
abbrev s_law : Stmt := top 81
abbrev s_Cook_init : Stmt := inClass (top 66) 0
abbrev s_Cook_add : Stmt := inClass (top 66) 1
abbrev s_Cook_keep : Stmt := inClass (top 66) 2
abbrev s_Cook_unlock : Stmt := inClass (top 66) 3
abbrev s_Cook_make : Stmt := inClass (top 66) 4
abbrev s_Cook_build : Stmt := inClass (top 66) 5
end Kt
/-! The walks: checks. -/
namespace Kt
open PySem PySem.Spec PyProof.Rows L2
open Tm
section
variable {P : Program} {w : World} {K : PySem.W.Frag} {mg : PySem.Str → Option Value} {base : Heap}
/-! ### checks -/
abbrev N_is_integer : List PySem.Str := ["thing"]
abbrev P_is_integer : List PySem.Str := ["thing"]
theorem sc_is_integer : FnScope N_is_integer P_is_integer (defScope s_is_integer) := ⟨rfl, rfl, rfl, by decide +kernel, rfl, by decide +kernel, by decide +kernel⟩
def isInt : Kn → Bool
  | .int => true
  | _ => false
def sp_is_integer : Sp := fun vs H Q _ => ∃ x k, vs = [x] ∧ Kd H x k ∧ Q (.bl (isInt k)) H
theorem c_is_integer (D : Dfn K mg "is_integer" s_is_integer) (T : Gs K mg w) : C8.Cal P w K mg base 1 "is_integer" sp_is_integer [] := by
  have sc := sc_is_integer
  refine mkCal D (fun _ _ _ _ _ _ us hl => match us, hl with | [_], _ => rfl) sc (fun vs H Q E h => by obtain ⟨x, k, rfl, _⟩ := h; rfl) fun cdv A outer s H vs Q E f hr h => ?_
  obtain ⟨x, k, rfl, hk, q⟩ := h
  refine ⟨_, (pss_one (ps_ret (pe_and (pe_callB (call_isK .int) rfl T.isinstance (by decide +kernel) (pa_cons (pv 0) (pa_cons (pe_kn .int rfl T.int) pa_nil))) (pe_one (pe_not (pe_callB (call_isK .bl) rfl T.isinstance (by decide +kernel) (pa_cons (pv 0) (pa_cons (pe_kn .bl rfl T.bool) pa_nil)))))))), ?_⟩
  refine ⟨_, rfl, rfl, _, hk, _, rfl, ?_⟩
  cases k <;> first | exact iteF q | exact iteT ⟨_, rfl, rfl, _, hk, _, rfl, q⟩
abbrev N_is_between : List PySem.Str := ["thing", "low", "high"]
abbrev P_is_between : List PySem.Str := ["thing", "low", "high"]
theorem sc_is_between : FnScope N_is_between P_is_between (defScope s_is_between) := ⟨rfl, rfl, rfl, by decide +kernel, rfl, by decide +kernel, by decide +kernel⟩
def sp_is_between : Sp := fun vs H Q _ => ∃ a lo hi : Int, vs = [.int a, .int lo, .int hi] ∧ lo ≤ a ∧ a ≤ hi ∧ Q (.bl true) H
theorem c_is_between (D : Dfn K mg "is_between" s_is_between) (T : Gs K mg w) (c_is_integer : C8.Cal P w K mg base 1 "is_integer" sp_is_integer []) : C8.Cal P w K mg base 2 "is_between" sp_is_between [] := by
  have sc := sc_is_between
  refine mkCal D (fun _ _ _ _ _ _ us hl => match us, hl with | [_, _, _], _ => rfl) sc (fun vs H Q E h => by obtain ⟨a, lo, hi, rfl, _⟩ := h; rfl) fun cdv A outer s H vs Q E f hr h => ?_
  obtain ⟨a, lo, hi, rfl, h1, h2, q⟩ := h
  refine ⟨_, (pss_one (ps_ret (pe_and (C8.pe_c c_is_integer hr (by first | decide | omega) rfl (pa_cons (pv 0) pa_nil)) (pe_one (pe_chain op_le op_le (pv 1) (pv 0) (pv 2)))))), ?_⟩
  refine ⟨_, rfl, _, _, rfl, .int _, _, rfl, iteT ⟨_, rfl, _, rfl, _, _, rfl, rfl, _, rfl, ifT (decide_eq_true h1) ⟨_, rfl, _, _, rfl, rfl, ?_⟩⟩⟩
  show Q (.bl (decide (a ≤ hi))) H
  rw [decide_eq_true h2]
  exact q
abbrev N_is_name : List PySem.Str := ["thing", "letter"]
abbrev P_is_name : List PySem.Str := ["thing"]
theorem sc_is_name : FnScope N_is_name P_is_name (defScope s_is_name) := ⟨rfl, rfl, rfl, by decide +kernel, rfl, by decide +kernel, by decide +kernel⟩
def sp_is_name : Sp := fun vs H Q _ => ∃ v, vs = [v] ∧ ((∃ x, v = .str x ∧ NameOk x ∧ ∀ H', Same H H' → Q (.bl true) H') ∨ (Kd H v .tup ∧ Q (.bl false) H))
theorem low_small {c : Nat} (h : Low c) : c ∈ (Str.ofString "abcdefghijklmnopqrstuvwxyz").cps.toList := by
  have e : (Str.ofString "abcdefghijklmnopqrstuvwxyz").cps.toList = List.range' 97 26 := by decide +kernel
  rw [e, List.mem_range'_1]
  exact ⟨h.1, by have := h.2; omega⟩
theorem c_is_name (D : Dfn K mg "is_name" s_is_name) (T : Gs K mg w) : C8.Cal P w K mg base 1 "is_name" sp_is_name [] := by
  have sc := sc_is_name
  refine mkCal D (fun _ _ _ _ _ _ us hl => match us, hl with | [_], _ => rfl) sc (fun vs H Q E h => by obtain ⟨v, rfl, _⟩ := h; rfl) fun cdv A outer s H vs Q E f hr h => ?_
  obtain ⟨v, rfl, h⟩ := h
  refine ⟨_, (pss_cons (ps_if (PW.pt (pw_or (pt_not (pt_val (pe_callB (call_isK .str) rfl T.isinstance (by decide +kernel) (pa_cons (pv 0) (pa_cons (pe_kn .str rfl T.str) pa_nil))))) (pw_or1 (pt_not (pt_chain op_le op_le pe_int (pe_callB call_len_str rfl T.len (by decide +kernel) (pa_cons (pv 0) pa_nil)) (C8.pe_gc rfl T.MOST_LETTERS)))))) (pss_one (ps_ret pe_bl)) pss_nil) (pss_one (ps_ret (pe_callB (cr_all rfl) rfl T.all (by decide +kernel) (pa_cons (pe_lc (own := [("letter", 1)]) (g := gName 1) (tt := tYes) rfl sc.nd (pi_str (pv 0)) (blkOk_by (N := N_is_name) (sc := defScope s_is_name) (by decide +kernel)) (fun _ _ _ _ _ => (pg_name (i := 1) sc.nd rfl (Or.inl rfl))) (fun _ _ _ _ _ => pts_nil) (fun _ _ _ _ _ => (pe_cmpR op_in_sign (pv 1) (C8.pe_gc rfl T.SMALL) rfl))) pa_nil))))), ?_⟩
  rcases h with ⟨x, rfl, hx, q⟩ | ⟨hk, q⟩
  · refine ⟨_, rfl, rfl, _, .str x, _, rfl, iteF ⟨_, rfl, _, rfl, le_line (by have := hx.2.1; omega), _, _, rfl, rfl, _, rfl, ?_⟩⟩
    have h1 : (1 : Int) ≤ (x.length : Int) := by have := hx.1; omega
    have h2 : (x.length : Int) ≤ 8 := by have := hx.2.1; omega
    refine ifT (decide_eq_true h1) ⟨_, _, rfl, rfl, _, rfl, ?_⟩
    refine ifF (by rw [decide_eq_true h2]; rfl) ⟨_, rfl, _, rfl, fun L hL => lc_map walk_str (fun _ _ v => v = .bl true) (lt_line (by have := hx.2.1; show x.length ≤ _; omega)) hL (fun _ _ _ _ _ e => e) (fun _ _ => trivial) (fun i y H1 H2 N hi k y1 n => ?_) (fun H1 acc k ha hl hr => ?_)⟩
    · obtain ⟨rfl, c, hc, rfl⟩ := y1
      refine ⟨rfl, _, rfl, _, _, rfl, rfl, n _ _ (Same.refl _) ?_⟩
      have hc' : c ∈ x.cps.toList := List.mem_of_getElem? (by rw [Array.getElem?_toList]; exact hc)
      rw [decide_eq_true (low_small (hx.2.2 c hc'))]
    · refine ⟨_, _, rfl, SqL.of (ha.trans (congrArg (fun z => some (HO.lst z)) (boolsL (b := fun _ => true) hl hr))), ?_⟩
      have e : (((List.range x.cps.size).map fun _ => true).all id) = true := by simp
      rw [e]
      exact q _ k
  · exact ⟨_, rfl, rfl, _, hk, _, rfl, iteT (iteT q)⟩
abbrev N_is_row : List PySem.Str := ["thing"]
abbrev P_is_row : List PySem.Str := ["thing"]
theorem sc_is_row : FnScope N_is_row P_is_row (defScope s_is_row) := ⟨rfl, rfl, rfl, by decide +kernel, rfl, by decide +kernel, by decide +kernel⟩
def sp_is_row : Sp := fun vs H Q _ => ∃ v k, vs = [v] ∧ Kd H v k ∧ ∀ H', Same H H' → Q (.bl (isK k .lst || isK k .tup)) H'
theorem Kd.same {H H' : Hp} {v : V} {k : Kn} (h : Kd H v k) (s : Same H H') : Kd H' v k := by
  cases h with
  | non => exact .non
  | bl b => exact .bl b
  | int i => exact .int i
  | str x => exact .str x
  | lst e => exact .lst (s _ _ e)
  | tup e => exact .tup (s _ _ e)
  | dic e => exact .dic (s _ _ e)
theorem c_is_row (D : Dfn K mg "is_row" s_is_row) (T : Gs K mg w) : C8.Cal P w K mg base 1 "is_row" sp_is_row [] := by
  have sc := sc_is_row
  refine mkCal D (fun _ _ _ _ _ _ us hl => match us, hl with | [_], _ => rfl) sc (fun vs H Q E h => by obtain ⟨x, k, rfl, _⟩ := h; rfl) fun cdv A outer s H vs Q E f hr h => ?_
  obtain ⟨x, k, rfl, hk, q⟩ := h
  refine ⟨_, (pss_one (ps_ret (pe_callB (call_isK2 .lst .tup) rfl T.isinstance (by decide +kernel) (pa_cons (pv 0) (pa_cons (pe_tup (pa_cons (pe_kn .lst rfl T.list) (pa_cons (pe_kn .tup rfl T.tuple) pa_nil))) pa_nil))))), ?_⟩
  exact ⟨_, rfl, le_line (by decide), fun p hp => ⟨upd_same, _, hk.same (sUp hp), q _ (sUp hp)⟩⟩
abbrev N_is_name_dict : List PySem.Str := ["thing", "key"]
abbrev P_is_name_dict : List PySem.Str := ["thing"]
theorem sc_is_name_dict : FnScope N_is_name_dict P_is_name_dict (defScope s_is_name_dict) := ⟨rfl, rfl, rfl, by decide +kernel, rfl, by decide +kernel, by decide +kernel⟩
/-- a dict of names -/
def NDict (kvs : List (Key × V)) : Prop := ∀ p ∈ kvs, ∃ x y, p.1 = Sum.inr x ∧ p.2 = .str y ∧ NameOk x ∧ NameOk y
def sp_is_name_dict : Sp := fun vs H Q _ => ∃ d kvs, vs = [.ref d] ∧ H d = some (.dK kvs) ∧ NDict kvs ∧ (kvs.map (·.1)).Nodup ∧ kvs.length ≤ 1000 ∧ ∀ H', Same H H' → Q (.bl true) H'
theorem c_is_name_dict (D : Dfn K mg "is_name_dict" s_is_name_dict) (T : Gs K mg w) (c_is_name : C8.Cal P w K mg base 1 "is_name" sp_is_name []) : C8.Cal P w K mg base 2 "is_name_dict" sp_is_name_dict [] := by
  have sc := sc_is_name_dict
  refine mkCal D (fun _ _ _ _ _ _ us hl => match us, hl with | [_], _ => rfl) sc (fun vs H Q E h => by obtain ⟨d, kvs, rfl, _⟩ := h; rfl) fun cdv A outer s H vs Q E f hr h => ?_
  obtain ⟨d, kvs, rfl, hd, hk, nd, hl, q⟩ := h
  refine ⟨_, (pss_one (ps_ret (pe_and (pe_callB (call_isK .dic) rfl T.isinstance (by decide +kernel) (pa_cons (pv 0) (pa_cons (pe_kn .dic rfl T.dict) pa_nil))) (pe_one (pe_callB (cr_all rfl) rfl T.all (by decide +kernel) (pa_cons (pe_lock (pe_lc (own := [("key", 1)]) (g := gName 1) (tt := tYes) rfl sc.nd (pi_keys (pv 0)) (blkOk_by (N := N_is_name_dict) (sc := defScope s_is_name_dict) (by decide +kernel)) (fun _ _ _ _ _ => (pg_name (i := 1) sc.nd rfl (Or.inl rfl))) (fun _ _ _ _ _ => pts_nil) (fun _ _ _ _ _ => (pe_and (C8.pe_c c_is_name hr (by first | decide | omega) rfl (pa_cons (pv 1) pa_nil)) (pe_one (C8.pe_c c_is_name hr (by first | decide | omega) rfl (pa_cons (pe_dget (hu_of hr) (pv 0) (pv 1) (fun _ _ => rfl)) pa_nil))))))) pa_nil)))))), ?_⟩
  refine ⟨_, rfl, rfl, _, .dic hd, _, rfl, iteT ⟨d, _, hd, trivial, fun od => ?_⟩⟩
  refine ⟨_, rfl, _, _, rfl, .inl ⟨kvs, upd_same, fun L hL => ?_⟩⟩
  have hLd : d ≠ L := fun z => by subst z; rw [upd_same] at hL; cases hL
  refine lc_map walk_keys (fun _ _ v => v = .bl true) (lt_line (by omega)) hL (fun _ _ _ _ _ e => e) (fun H1 k => k _ _ upd_same) (fun i y H1 H2 N hi k y1 n => ?_) (fun H1 acc k ha hl hr => ?_)
  · obtain ⟨rfl, key, v, hkv, rfl⟩ := y1
    obtain ⟨x, y, e1, e2, nx, ny⟩ := hk _ (List.mem_of_getElem? hkv)
    have e1 : key = Sum.inr x := e1
    have e2 : v = .str y := e2
    subst e1 e2
    refine ⟨rfl, _, rfl, _, rfl, .inl ⟨x, rfl, nx, fun H3 k3 => ⟨_, rfl, iteT ⟨_, rfl, _, rfl, _, _, rfl, .inl ⟨kvs, Sum.inr x, .inr ⟨_, k3 _ _ (k _ _ upd_same)⟩, rfl, ?_⟩, _, rfl, .inl ⟨y, rfl, ny, fun H4 k4 => n _ _ (k3.trans k4) rfl⟩⟩⟩⟩⟩
    exact (valV_get nd hkv).symm
  · have e : (((List.range kvs.length).map fun _ => true).all id) = true := by simp
    refine ⟨k _ _ upd_same, _, _, rfl, SqL.of ((upd_ne (Ne.symm hLd)).trans (ha.trans (congrArg (fun z => some (HO.lst z)) (boolsL (b := fun _ => true) hl hr)))), ?_⟩
    rw [e]
    refine q _ fun b o e => ?_
    by_cases z : b = d
    · subst z
      rw [upd_same, ← hd, e]
    · rw [upd_ne z]
      exact k _ _ (by rw [upd_ne z]; exact e)
abbrev N_is_leaf : List PySem.Str := ["thing", "open_so"]
abbrev P_is_leaf : List PySem.Str := ["thing", "open_so"]
theorem sc_is_leaf : FnScope N_is_leaf P_is_leaf (defScope s_is_leaf) := ⟨rfl, rfl, rfl, by decide +kernel, rfl, by decide +kernel, by decide +kernel⟩
def sp_is_leaf : Sp := fun vs H Q _ => ∃ v, vs = [v, .bl false] ∧ ((∃ x, v = .str x ∧ NameOk x ∧ ∀ H', Same H H' → Q (.bl true) H') ∨ (Kd H v .tup ∧ Q (.bl false) H))
theorem c_is_leaf (D : Dfn K mg "is_leaf" s_is_leaf) (T : Gs K mg w) (c_is_name : C8.Cal P w K mg base 1 "is_name" sp_is_name []) : C8.Cal P w K mg base 2 "is_leaf" sp_is_leaf [] := by
  have sc := sc_is_leaf
  refine mkCal D (fun _ _ _ _ _ _ us hl => match us, hl with | [_, _], _ => rfl) sc (fun vs H Q E h => by obtain ⟨v, rfl, _⟩ := h; rfl) fun cdv A outer s H vs Q E f hr h => ?_
  obtain ⟨v, rfl, h⟩ := h
  refine ⟨_, (pss_cons (ps_if (pt_val (C8.pe_c c_is_name hr (by first | decide | omega) rfl (pa_cons (pv 0) pa_nil))) (pss_one (ps_ret pe_bl)) pss_nil) (pss_one (ps_ret (pe_and (pv 1) (pe_and (pe_callB (call_isK .tup) rfl T.isinstance (by decide +kernel) (pa_cons (pv 0) (pa_cons (pe_kn .tup rfl T.tuple) pa_nil))) (pe_and (pe_cmpR op_eq (pe_callB call_len rfl T.len (by decide +kernel) (pa_cons (pv 0) pa_nil)) pe_int (nomark _)) (pe_and (pe_cmpR op_eq (pe_ix ix_tup (pv 0) pe_int (fun _ _ => rfl)) (C8.pe_gc rfl T.VAR) (nomark _)) (pe_one (C8.pe_c c_is_name hr (by first | decide | omega) rfl (pa_cons (pe_ix ix_tup (pv 0) pe_int (fun _ _ => rfl)) pa_nil)))))))))), ?_⟩
  rcases h with ⟨x, rfl, hx, q⟩ | ⟨hk, q⟩
  · exact ⟨_, rfl, _, rfl, .inl ⟨x, rfl, hx, fun H' k => ⟨_, rfl, iteT (q _ k)⟩⟩⟩
  · exact ⟨_, rfl, _, rfl, .inr ⟨hk, _, rfl, iteF ⟨_, rfl, _, rfl, iteF q⟩⟩⟩
end
end Kt
/-! The walks: checks. -/
namespace Kt
open PySem PySem.Spec PyProof.Rows L2
open Tm
section
variable {P : Program} {w : World} {K : PySem.W.Frag} {mg : PySem.Str → Option Value} {base : Heap}
/-! ### terms -/
theorem accMap {α : Type} {acc : List V} {l : List α} {f : α → V} (hl : acc.length = l.length) (h : ∀ (i : Nat) (v : V), acc[i]? = some v → ∃ a, l[i]? = some a ∧ v = f a) : acc = l.map f := by
  refine ext_at (by simp [hl]) fun i v u e1 e2 => ?_
  obtain ⟨a, ha, rfl⟩ := h i v e1
  rw [List.getElem?_map, ha] at e2
  exact Option.some.inj e2
theorem dpAll_of {K : PySem.W.Frag} {H : Hp} : ∀ {acc : List V} {ds : List PyData}, acc.length = ds.length → (∀ (i : Nat) (v : V) (d : PyData), acc[i]? = some v → ds[i]? = some d → Dp K H v d) → DpAll K H acc ds
  | [], [], _, _ => .nil
  | [], _ :: _, e, _ => by cases e
  | _ :: _, [], e, _ => by cases e
  | a :: l, b :: m, e, h => .cons (h 0 a b rfl rfl) (dpAll_of (Nat.succ.inj e) fun i x y hx hy => h (i + 1) x y hx hy)
theorem size_kids {t : Tm} (nn : t.isNm = false) : (t.kids.map fun k => (k.size : Int)).sum = (t.size : Int) := by
  cases t with
  | nm x => cases nn
  | un g a => simp [Tm.kids, Tm.size]
  | bi g a b => simp [Tm.kids, Tm.size]
theorem depth_kids {t : Tm} (nn : t.isNm = false) {m : Int} (h1 : m ∈ t.kids.map fun k => (k.depth : Int)) (h2 : ∀ y, y ∈ (t.kids.map fun k => (k.depth : Int)) → y ≤ m) : 1 + m = (t.depth : Int) := by
  cases t with
  | nm x => cases nn
  | un g a =>
    have e : m = (a.depth : Int) := by simpa [Tm.kids] using h1
    subst e
    simp [Tm.depth]; omega
  | bi g a b =>
    have e : m = (a.depth : Int) ∨ m = (b.depth : Int) := by simpa [Tm.kids] using h1
    have h3 := h2 (a.depth : Int) (by simp [Tm.kids])
    have h4 := h2 (b.depth : Int) (by simp [Tm.kids])
    simp only [Tm.depth]
    omega
/-- the words whose first part is a name -/
def named (t : Tm) : Bool := t.hd == "half" || t.hd == "shut" || t.hd == "mark"
def named0 (x : PySem.Str) : Bool := x == "half" || x == "shut" || x == "mark"
theorem inV_named {t : Tm} (nn : t.isNm = false) : inV (.str t.hd) [.str "half", .str "shut", .str "mark"] = named t := by
  have h1 : ∀ g : G1, inV (.str g.s) [.str "half", .str "shut", .str "mark"] = named0 g.s := by intro g; cases g <;> decide +kernel
  have h2 : ∀ g : G2, inV (.str g.s) [.str "half", .str "shut", .str "mark"] = named0 g.s := by intro g; cases g <;> decide +kernel
  cases t with
  | nm x => cases nn
  | un g a => exact h1 g
  | bi g a b => exact h2 g
theorem named_kid {N : PySem.Str → Prop} {t : Tm} (nn : t.isNm = false) (hw : WF N t) (h : named t = true) : ∃ x r, t.kids = .nm x :: r ∧ N x := by
  cases t with
  | nm x => cases nn
  | un g a =>
    cases g with
    | half => obtain ⟨x, rfl, hx⟩ := hw; exact ⟨x, [], rfl, hx⟩
    | mix => exact absurd (show named0 G1.mix.s = true from h) (by decide +kernel)
  | bi g a b =>
    cases g with
    | pair => exact absurd (show named0 G2.pair.s = true from h) (by decide +kernel)
    | box => exact absurd (show named0 G2.box.s = true from h) (by decide +kernel)
    | shut => obtain ⟨⟨x, rfl, hx⟩, _⟩ := hw; exact ⟨x, [b], rfl, hx⟩
    | mark => obtain ⟨⟨x, rfl, hx⟩, _⟩ := hw; exact ⟨x, [b], rfl, hx⟩
theorem kids_len {t : Tm} (nn : t.isNm = false) : t.kids.length = 1 ∨ t.kids.length = 2 := by
  cases t with
  | nm x => cases nn
  | un g a => exact .inl rfl
  | bi g a b => exact .inr rfl
theorem kdepth {t k : Tm} (h : k ∈ t.kids) : k.depth + 1 ≤ t.depth := kid_depth h
abbrev N_measure : List PySem.Str := ["thing", "open_so", "room", "rows", "part", "row"]
abbrev P_measure : List PySem.Str := ["thing", "open_so", "room"]
theorem sc_measure : FnScope N_measure P_measure (defScope s_measure) := ⟨rfl, rfl, rfl, by decide +kernel, rfl, by decide +kernel, by decide +kernel⟩
def sp_measure (n : Nat) : Sp := fun vs H Q _ => ∃ (v : V) (t : Tm) (r : Int), vs = [v, .bl false, .int r] ∧ TmV H t v ∧ WF NameOk t ∧ t.depth ≤ n ∧ (t.depth : Int) ≤ r ∧ ∀ p H', Same H H' → H' p = some (.tup [.int t.size, .int t.depth]) → Q (.ref p) H'
theorem c_measure (D : Dfn K mg "measure" s_measure) (T : Gs K mg w) (c_is_leaf : C8.Cal P w K mg base 2 "is_leaf" sp_is_leaf []) : ∀ n, C8.Cal P w K mg base (n + 3) "measure" (sp_measure n) [] := by
  have sc := sc_measure
  intro n
  induction n with
  | zero =>
    refine mkCal D (fun _ _ _ _ _ _ us hl => match us, hl with | [_, _, _], _ => rfl) sc (fun vs H Q E h => by obtain ⟨v, t, r, rfl, _⟩ := h; rfl) fun cdv A outer s H vs Q E f hr h => ?_
    obtain ⟨v, t, r, rfl, _, _, h0, _⟩ := h
    exact absurd (depth_pos t) (by omega)
  | succ n c_measure =>
    obtain ⟨aNAMED, gNAMED, sNAMED⟩ := T.NAMED
    obtain ⟨aLENGTHS, esL, nL, gLENGTHS, dLENGTHS, hL1, hL2⟩ := T.LENGTHS
    refine mkCal D (fun _ _ _ _ _ _ us hl => match us, hl with | [_, _, _], _ => rfl) sc (fun vs H Q E h => by obtain ⟨v, t, r, rfl, _⟩ := h; rfl) fun cdv A outer s H vs Q E f hr h => ?_
    obtain ⟨v, t, r, rfl, ht, hw, hd, hdr, q⟩ := h
    refine ⟨_, (pss_cons (ps_if (pt_val (C8.pe_c c_is_leaf hr (by first | decide | omega) rfl (pa_cons (pv 0) (pa_cons (pv 1) pa_nil)))) (pss_one (ps_ret (pe_tup (pa_cons pe_int (pa_cons pe_int pa_nil))))) pss_nil) (pss_cons (ps_if (PW.pt (pw_or (pt_cmpR op_eq (pv 2) pe_int (nomark _)) (pw_or (pt_not (pt_val (pe_callB (call_isK .tup) rfl T.isinstance (by decide +kernel) (pa_cons (pv 0) (pa_cons (pe_kn .tup rfl T.tuple) pa_nil))))) (pw_or (pt_cmpR op_eq (pe_callB call_len rfl T.len (by decide +kernel) (pa_cons (pv 0) pa_nil)) pe_int (nomark _)) (pw_or1 (pt_not (pt_val (pe_callB (call_isK .str) rfl T.isinstance (by decide +kernel) (pa_cons (pe_ix ix_tup (pv 0) pe_int (fun _ _ => rfl)) (pa_cons (pe_kn .str rfl T.str) pa_nil)))))))))) (pss_one (ps_ret pe_non)) pss_nil) (pss_cons (ps_if (PW.pt (pw_or (pt_cmpR (op_notIn_kd dLENGTHS) (pe_ix ix_tup (pv 0) pe_int (fun _ _ => rfl)) (C8.pe_gc rfl gLENGTHS) rfl) (pw_or1 (pt_cmpR op_ne (pe_callB call_len rfl T.len (by decide +kernel) (pa_cons (pv 0) pa_nil)) (pe_ix ix_kdict (C8.pe_gc rfl gLENGTHS) (pe_ix ix_tup (pv 0) pe_int (fun _ _ => rfl)) (fun _ _ => rfl)) (nomark _))))) (pss_one (ps_ret pe_non)) pss_nil) (C8.pss_cut (ps_if (PW.pt (pw_and (pt_cmpR op_in_seq (pe_ix ix_tup (pv 0) pe_int (fun _ _ => rfl)) (C8.pe_gc rfl gNAMED) rfl) (pw_and1 (pt_not (pt_val (C8.pe_c c_is_leaf hr (by first | decide | omega) rfl (pa_cons (pe_ix ix_tup (pv 0) pe_int (fun _ _ => rfl)) (pa_cons (pv 1) pa_nil)))))))) (pss_one (ps_ret pe_non)) pss_nil) (C8.pss_cut (ps_setLc (i := 3) (own := [("part", 4)]) (g := gName 4) (tt := tYes) rfl sc.nd rfl rfl (sw_true rfl rfl rfl (by decide +kernel)) (pi_tup (pe_slice sl_tup (pv 0) (po_some pe_int) po_no)) (blkOk_by (N := N_measure) (sc := defScope s_measure) (by decide +kernel)) (fun _ _ _ _ _ => (pg_name (i := 4) sc.nd rfl (Or.inl rfl))) (fun _ _ _ _ _ => pts_nil) (fun _ _ _ _ _ => (C8.pe_c c_measure hr (by first | decide | omega) rfl (pa_cons (pv 4) (pa_cons (pv 1) (pa_cons (pe_op op_sub (pv 2) pe_int) pa_nil)))))) (pss_cons (ps_if (pt_cmpR (op_inD (hu65 hr)) pe_non (pv 3) rfl) (pss_one (ps_ret pe_non)) pss_nil) (pss_one (ps_ret (pe_tup (pa_cons (pe_callB (cr_sum rfl) rfl T.sum (by decide +kernel) (pa_cons (pe_lc (own := [("row", 5)]) (g := gName 5) (tt := tYes) rfl sc.nd (pi_list (pv 3)) (blkOk_by (N := N_measure) (sc := defScope s_measure) (by decide +kernel)) (fun _ _ _ _ _ => (pg_name (i := 5) sc.nd rfl (Or.inl rfl))) (fun _ _ _ _ _ => pts_nil) (fun _ _ _ _ _ => (pe_ix (show IxR _ (rIxT K) from ix_tup) (pv 5) pe_int (fun _ _ => rfl)))) pa_nil)) (pa_cons (pe_op op_add pe_int (pe_callB (cr_max rfl) rfl T.max (by decide +kernel) (pa_cons (pe_lc (own := [("row", 5)]) (g := gName 5) (tt := tYes) rfl sc.nd (pi_list (pv 3)) (blkOk_by (N := N_measure) (sc := defScope s_measure) (by decide +kernel)) (fun _ _ _ _ _ => (pg_name (i := 5) sc.nd rfl (Or.inl rfl))) (fun _ _ _ _ _ => pts_nil) (fun _ _ _ _ _ => (pe_ix (show IxR _ (rIxT K) from ix_tup) (pv 5) pe_int (fun _ _ => rfl)))) pa_nil))) pa_nil))))))))))), ?_⟩
    cases nn : t.isNm with
    | true =>
      obtain ⟨x, rfl, rfl⟩ := tmNm ht nn
      exact ⟨_, rfl, _, rfl, _, rfl, .inl ⟨x, rfl, hw, fun H' k => ⟨_, rfl, iteT ⟨le_line (by decide), fun p hp => q _ _ (k.trans (sUp hp)) upd_same⟩⟩⟩⟩
    | false =>
      obtain ⟨p, ks, rfl, hp, hks⟩ := tm_tup ht nn
      have hkl : ks.length = t.kids.length := (Paired.length hks).symm
      have hlen := kids_len nn
      have hr2 : 2 ≤ r := by
        have : ∃ k, k ∈ t.kids := by
          cases e : t.kids with
          | nil => rw [e] at hlen; simp at hlen
          | cons a l => exact ⟨a, by simp⟩
        obtain ⟨k, hk⟩ := this
        have h1 := kdepth hk
        have h2 := depth_pos k
        omega
      have hns : ∃ u, PySem.W.nsIn K aLENGTHS t.hd = some (some u) ∧ RelV (.int ((ks.length : Int) + 1)) u := by
        cases t with
        | nm x => cases nn
        | un g a => rw [hkl]; exact hL1 g
        | bi g a b => rw [hkl]; exact hL2 g
      obtain ⟨u, hu1, hu2⟩ := hns
      refine ⟨_, rfl, _, rfl, _, rfl, .inr ⟨.tup hp, _, rfl, iteF ?_⟩⟩
      refine ⟨_, rfl, rfl, _, rfl, ifF (decide_eq_false fun z => by cases z; omega) ⟨_, rfl, rfl, _, .tup hp, _, rfl, iteF ⟨_, rfl, _, _, rfl, .inr ⟨_, SqT.of hp, rfl⟩, rfl, _, rfl, ifF (decide_eq_false fun z => by injection z with z; simp at z; omega) ⟨_, rfl, _, _, _, _, rfl, rfl, SqT.of hp, at0, rfl, _, .str _, _, rfl, iteF ?_⟩⟩⟩⟩
      refine ⟨_, rfl, _, _, _, _, rfl, rfl, SqT.of hp, at0, _, _, rfl, rfl, hu1, _, rfl, iteF ?_⟩
      refine ⟨_, rfl, _, _, rfl, .inr ⟨_, SqT.of hp, rfl⟩, _, rfl, _, _, _, _, rfl, rfl, SqT.of hp, at0, _, _, _, rfl, rfl, ⟨_, _, u, dLENGTHS.1, dLENGTHS.2, hu1, hu2⟩, rfl, _, rfl, ifF ?_ ?_⟩
      · rw [decide_eq_true (congrArg V.int (by simp))]
        rfl
      -- the first part is a name
      refine ⟨fun σ' H' => σ' = L2.start N_measure [.ref p, .bl false, .int r] ∧ Same H H', ?_, fun σ' H0 m => ?_⟩
      · refine ⟨_, rfl, _, _, _, _, rfl, rfl, SqT.of hp, at0, _, _, rfl, .inr (sNAMED _), rfl, rfl, _, rfl, ?_⟩
        rw [show (if false = true then !inV (.str t.hd) [.str "half", .str "shut", .str "mark"] else inV (.str t.hd) [.str "half", .str "shut", .str "mark"]) = named t from inV_named nn]
        cases hn : named t with
        | false => exact iteF (iteF ⟨rfl, Same.refl _⟩)
        | true =>
          obtain ⟨x, l, hk, hx⟩ := named_kid nn hw hn
          rw [hk] at hks
          cases hks with
          | cons h1 h2 =>
            have h1 := tm_nm h1
            subst h1
            exact iteT ⟨_, rfl, _, _, _, _, rfl, rfl, SqT.of hp, at1, _, rfl, _, rfl, .inl ⟨x, rfl, hx, fun H' k => ⟨_, rfl, iteF ⟨rfl, k⟩⟩⟩⟩
      -- the rows
      obtain ⟨rfl, k0⟩ := m
      have hp0 := k0 _ _ hp
      refine ⟨fun σ' H' => ∃ L acc, σ' = (L2.start N_measure [.ref p, .bl false, .int r]).set 3 (some (.ref L)) ∧ Same H H' ∧ H' L = some (.lst acc) ∧ acc.length = t.kids.length ∧ ∀ (i : Nat) (v : V), acc[i]? = some v → ∃ k q, t.kids[i]? = some k ∧ v = .ref q ∧ H' q = some (.tup [.int k.size, .int k.depth]), ?_, fun σ' H0 m => ?_⟩
      · refine ⟨_, rfl, _, rfl, ?_⟩
        refine sl1 (K := K) (a := .str t.hd) (ks := ks) (SqT.of hp0) fun p' hp' => ?_
        refine ⟨p', rfl, ⟨_, SqT.of upd_same⟩, fun L hL => lc_map walk_tup (fun i H' v => ∃ k q, t.kids[i]? = some k ∧ v = .ref q ∧ H' q = some (.tup [.int k.size, .int k.depth])) (lt_line (by omega)) hL (fun i H1 H2 v tu ⟨k, q, e1, e2, e3⟩ => ⟨k, q, e1, e2, tu _ _ e3⟩) (fun H1 k => SqT.of (k _ _ upd_same)) (fun i y H1 H2 N hi k y1 n' => ?_) (fun H1 acc k ha hl hr => ?_)⟩
        · obtain ⟨rfl, hy⟩ := y1
          obtain ⟨kt, hkt⟩ : ∃ kt, t.kids[i]? = some kt := ⟨_, List.getElem?_eq_getElem (by omega)⟩
          have kH : Same H H2 := k0.trans ((sUp hp').trans k)
          obtain ⟨y', hy', hty⟩ := paired_at hks hkt
          have e : y' = y := by rw [hy] at hy'; exact (Option.some.inj hy').symm
          subst e
          have hmem : kt ∈ t.kids := List.mem_of_getElem? hkt
          have hdk := kdepth hmem
          refine ⟨rfl, _, rfl, _, rfl, _, rfl, _, _, rfl, rfl, _, kt, _, rfl, hty.same kH, WF.kid hw hmem, by omega, by omega, fun q' H' k' hq' => n' _ _ k' ⟨kt, q', hkt, rfl, hq'⟩⟩
        · exact ⟨L, acc, rfl, k0.trans ((sUp hp').trans k), ha, by rw [hl, hkl], hr⟩
      -- none of them is None
      obtain ⟨L, acc, rfl, kA, hA, hl, hR⟩ := m
      refine ⟨_, rfl, .none, t.kids.map fun k => .tuple [.int k.size, .int k.depth], .non, .lst (SqL.of hA) (dpAll_of (by simp [hl]) fun i v d e1 e2 => ?_), rfl, ?_, _, rfl, ?_⟩
      · obtain ⟨k, q', e3, rfl, e4⟩ := hR i v e1
        rw [List.getElem?_map, e3] at e2
        cases e2
        exact .tup (SqT.of e4) (.cons (.int _) (.cons (.int _) .nil))
      · cases t with
        | nm x => cases nn
        | un g a => rfl
        | bi g a b => rfl
      have hno : ((t.kids.map fun k => PyData.tuple [.int k.size, .int k.depth]).any fun z => PyData.eqv z .none) = false := by
        rw [List.any_eq_false]
        intro z hz
        obtain ⟨k, _, rfl⟩ := List.mem_map.mp hz
        exact Bool.false_ne_true
      rw [hno]
      refine iteF ?_
      -- the sum and the greatest
      refine ⟨_, rfl, _, rfl, ⟨_, SqL.of hA⟩, fun L1 hL1' => lc_map walk_list (fun i H' v => ∃ k, t.kids[i]? = some k ∧ v = .int k.size) (lt_line (by omega)) hL1' (fun _ _ _ _ _ e => e) (fun H1 k => SqL.of (k _ _ hA)) (fun i y H1 H2 N hi k y1 n' => ?_) (fun H1 acc1 k1 ha1 hl1 hr1 => ?_)⟩
      · obtain ⟨rfl, hy⟩ := y1
        obtain ⟨kt, q', e3, rfl, e4⟩ := hR i y hy
        exact ⟨rfl, _, rfl, _, _, _, _, rfl, rfl, SqT.of (k _ _ e4), at0, n' _ _ (Same.refl _) ⟨kt, e3, rfl⟩⟩
      have e1 : acc1 = (t.kids.map fun k => (k.size : Int)).map V.int := by
        rw [List.map_map]
        exact accMap (f := fun k : Tm => V.int k.size) (by omega) fun i v e => let ⟨k, h1, h2⟩ := hr1 i v e; ⟨k, h1, h2⟩
      refine ⟨_, _, rfl, SqL.of (ha1.trans (congrArg (fun z => some (HO.lst z)) e1)), ?_⟩
      refine ⟨_, rfl, _, rfl, ⟨_, SqL.of (k1 _ _ hA)⟩, fun L2 hL2' => lc_map walk_list (fun i H' v => ∃ k, t.kids[i]? = some k ∧ v = .int k.depth) (lt_line (by omega)) hL2' (fun _ _ _ _ _ e => e) (fun H1 k => SqL.of (k _ _ (k1 _ _ hA))) (fun i y H1 H2 N hi k y1 n' => ?_) (fun H2 acc2 k2 ha2 hl2 hr2 => ?_)⟩
      · obtain ⟨rfl, hy⟩ := y1
        obtain ⟨kt, q', e3, rfl, e4⟩ := hR i y hy
        exact ⟨rfl, _, rfl, _, _, _, _, rfl, rfl, SqT.of (k _ _ (k1 _ _ e4)), at1, n' _ _ (Same.refl _) ⟨kt, e3, rfl⟩⟩
      have e2 : acc2 = (t.kids.map fun k => (k.depth : Int)).map V.int := by
        rw [List.map_map]
        exact accMap (f := fun k : Tm => V.int k.depth) (by omega) fun i v e => let ⟨k, h1, h2⟩ := hr2 i v e; ⟨k, h1, h2⟩
      refine ⟨_, _, rfl, SqL.of (ha2.trans (congrArg (fun z => some (HO.lst z)) e2)), by rw [List.length_map]; omega, fun m hm hle => ⟨_, _, rfl, rfl, by show 2 ≤ sizeLine; decide, fun p3 hp3 => q _ _ (kA.trans (k1.trans (k2.trans (sUp hp3)))) ?_⟩⟩
      rw [upd_same, size_kids nn, ← depth_kids nn hm hle]
abbrev N_has_form : List PySem.Str := ["thing", "open_so", "found"]
abbrev P_has_form : List PySem.Str := ["thing", "open_so"]
theorem sc_has_form : FnScope N_has_form P_has_form (defScope s_has_form) := ⟨rfl, rfl, rfl, by decide +kernel, rfl, by decide +kernel, by decide +kernel⟩
theorem size40 {t : Tm} (h : t.depth ≤ 5) : (t.size : Int) ≤ 40 := by
  have := size_le 4 t (by omega)
  omega
def sp_has_form : Sp := fun vs H Q _ => ∃ v t, vs = [v, .bl false] ∧ TmV H t v ∧ WF NameOk t ∧ t.depth ≤ 5 ∧ ∀ H', Same H H' → Q (.bl true) H'
theorem c_has_form (D : Dfn K mg "has_form" s_has_form) (T : Gs K mg w) (c_measure : C8.Cal P w K mg base 8 "measure" (sp_measure 5) []) : C8.Cal P w K mg base 9 "has_form" sp_has_form [] := by
  have sc := sc_has_form
  refine mkCal D (fun _ _ _ _ _ _ us hl => match us, hl with | [_, _], _ => rfl) sc (fun vs H Q E h => by obtain ⟨v, t, rfl, _⟩ := h; rfl) fun cdv A outer s H vs Q E f hr h => ?_
  obtain ⟨v, t, rfl, ht, hw, h5, q⟩ := h
  refine ⟨_, (pss_cons (ps_set (i := 2) sc.nd rfl (Or.inl rfl) (C8.pe_c c_measure hr (by first | decide | omega) rfl (pa_cons (pv 0) (pa_cons (pv 1) (pa_cons (C8.pe_gc rfl T.MOST_DEPTH) pa_nil))))) (pss_one (ps_ret (pe_and (pe_cmpR op_notN (pv 2) pe_non (nomark _)) (pe_one (pe_cmpR op_le (pe_ix ix_tup (pv 2) pe_int (fun _ _ => rfl)) (C8.pe_gc rfl T.MOST_NAMES) (nomark _))))))), ?_⟩
  refine ⟨_, rfl, _, rfl, v, t, 12, rfl, ht, hw, h5, by omega, fun p H' k hp => ⟨_, rfl, rfl, _, rfl, iteT ⟨_, rfl, _, _, _, _, rfl, rfl, SqT.of hp, at0, _, _, rfl, rfl, ?_⟩⟩⟩
  show Q (.bl (decide ((t.size : Int) ≤ 40))) H'
  rw [decide_eq_true (size40 h5)]
  exact q _ k
abbrev N_is_term : List PySem.Str := ["thing"]
abbrev P_is_term : List PySem.Str := ["thing"]
theorem sc_is_term : FnScope N_is_term P_is_term (defScope s_is_term) := ⟨rfl, rfl, rfl, by decide +kernel, rfl, by decide +kernel, by decide +kernel⟩
def sp_is_term : Sp := fun vs H Q _ => ∃ v t, vs = [v] ∧ TmV H t v ∧ WF NameOk t ∧ t.depth ≤ 5 ∧ ∀ H', Same H H' → Q (.bl true) H'
theorem c_is_term (D : Dfn K mg "is_term" s_is_term) (T : Gs K mg w) (c_has_form : C8.Cal P w K mg base 9 "has_form" sp_has_form []) : C8.Cal P w K mg base 10 "is_term" sp_is_term [] := by
  have sc := sc_is_term
  refine mkCal D (fun _ _ _ _ _ _ us hl => match us, hl with | [_], _ => rfl) sc (fun vs H Q E h => by obtain ⟨v, t, rfl, _⟩ := h; rfl) fun cdv A outer s H vs Q E f hr h => ?_
  obtain ⟨v, t, rfl, ht, hw, h5, q⟩ := h
  refine ⟨_, (pss_one (ps_ret (C8.pe_c c_has_form hr (by first | decide | omega) rfl (pa_cons (pv 0) (pa_cons pe_bl pa_nil))))), ?_⟩
  exact ⟨_, rfl, v, t, rfl, ht, hw, h5, fun H' k => q _ k⟩
abbrev N_check_term : List PySem.Str := ["term"]
abbrev P_check_term : List PySem.Str := ["term"]
theorem sc_check_term : FnScope N_check_term P_check_term (defScope s_check_term) := ⟨rfl, rfl, rfl, by decide +kernel, rfl, by decide +kernel, by decide +kernel⟩
def sp_check_term : Sp := fun vs H Q _ => ∃ v t, vs = [v] ∧ TmV H t v ∧ WF NameOk t ∧ t.depth ≤ 5 ∧ ∀ H', Same H H' → Q .non H'
theorem c_check_term (D : Dfn K mg "check_term" s_check_term) (T : Gs K mg w) (c_is_term : C8.Cal P w K mg base 10 "is_term" sp_is_term []) : C8.Cal P w K mg base 11 "check_term" sp_check_term [] := by
  have sc := sc_check_term
  refine mkCal D (fun _ _ _ _ _ _ us hl => match us, hl with | [_], _ => rfl) sc (fun vs H Q E h => by obtain ⟨v, t, rfl, _⟩ := h; rfl) fun cdv A outer s H vs Q E f hr h => ?_
  obtain ⟨v, t, rfl, ht, hw, h5, q⟩ := h
  refine ⟨_, (pss_one (ps_if (pt_not (pt_val (C8.pe_c c_is_term hr (by first | decide | omega) rfl (pa_cons (pv 0) pa_nil)))) (pss_one ps_never) pss_nil)), ?_⟩
  exact ⟨_, rfl, v, t, rfl, ht, hw, h5, fun H' k => ⟨_, rfl, iteF (q _ k)⟩⟩
abbrev N_replaced : List PySem.Str := ["term", "names", "part"]
abbrev P_replaced : List PySem.Str := ["term", "names"]
theorem sc_replaced : FnScope N_replaced P_replaced (defScope s_replaced) := ⟨rfl, rfl, rfl, by decide +kernel, rfl, by decide +kernel, by decide +kernel⟩
/-- the dict says what f says of the names of which N holds -/
def Says (f : PySem.Str → PySem.Str) (N : PySem.Str → Prop) (kvs : List (Key × V)) : Prop := ∀ x, N x → valV kvs (Sum.inr x) = some (.str (f x))
def sp_replaced (n : Nat) : Sp := fun vs H Q _ => ∃ (f : PySem.Str → PySem.Str) (N : PySem.Str → Prop) (v : V) (t : Tm) (d : Addr) (kvs : List (Key × V)), vs = [v, .ref d] ∧ TmV H t v ∧ WF N t ∧ t.depth ≤ n ∧ H d = some (.dK kvs) ∧ Says f N kvs ∧ ∀ v' H', Same H H' → TmV H' (t.map f) v' → Q v' H'
theorem map_hd {f : PySem.Str → PySem.Str} {t : Tm} (nn : t.isNm = false) : (t.map f).hd = t.hd ∧ (t.map f).kids = t.kids.map (Tm.map f) ∧ (t.map f).isNm = false := by
  cases t with
  | nm x => cases nn
  | un g a => exact ⟨rfl, rfl, rfl⟩
  | bi g a b => exact ⟨rfl, rfl, rfl⟩
theorem c_replaced (D : Dfn K mg "replaced" s_replaced) (T : Gs K mg w) : ∀ n, C8.Cal P w K mg base (n + 1) "replaced" (sp_replaced n) [] := by
  have sc := sc_replaced
  intro n
  induction n with
  | zero =>
    refine mkCal D (fun _ _ _ _ _ _ us hl => match us, hl with | [_, _], _ => rfl) sc (fun vs H Q E h => by obtain ⟨f, N, v, t, d, kvs, rfl, _⟩ := h; rfl) fun cdv A outer s H vs Q E ff hr h => ?_
    obtain ⟨f, N, v, t, d, kvs, rfl, _, _, h0, _⟩ := h
    exact absurd (depth_pos t) (by omega)
  | succ n c_replaced =>
    refine mkCal D (fun _ _ _ _ _ _ us hl => match us, hl with | [_, _], _ => rfl) sc (fun vs H Q E h => by obtain ⟨f, N, v, t, d, kvs, rfl, _⟩ := h; rfl) fun cdv A outer s H vs Q E ff hr h => ?_
    obtain ⟨f, N, v, t, d, kvs, rfl, ht, hw, hn, hd, hs, q⟩ := h
    refine ⟨_, (pss_cons (ps_if (pt_val (pe_callB (call_isK .str) rfl T.isinstance (by decide +kernel) (pa_cons (pv 0) (pa_cons (pe_kn .str rfl T.str) pa_nil)))) (pss_one (ps_ret (pe_dget2 (hu1 hr) (pv 1) (pv 0) (pv 0) ⟨rfl, rfl, rfl, rfl⟩))) pss_nil) (pss_one (ps_ret (pe_op op_catA (pe_tup (pa_cons (pe_ix ix_tup (pv 0) pe_int (fun _ _ => rfl)) pa_nil)) (pe_callTy call_tuple_of rfl T.tuple (by decide +kernel) (pa_cons (pe_lc (own := [("part", 2)]) (g := gName 2) (tt := tYes) rfl sc.nd (pi_tup (pe_slice sl_tup (pv 0) (po_some pe_int) po_no)) (blkOk_by (N := N_replaced) (sc := defScope s_replaced) (by decide +kernel)) (fun _ _ _ _ _ => (pg_name (i := 2) sc.nd rfl (Or.inl rfl))) (fun _ _ _ _ _ => pts_nil) (fun _ _ _ _ _ => (C8.pe_c c_replaced hr (by first | decide | omega) rfl (pa_cons (pv 2) (pa_cons (pv 1) pa_nil))))) pa_nil)))))), ?_⟩
    cases nn : t.isNm with
    | true =>
      obtain ⟨x, rfl, rfl⟩ := tmNm ht nn
      refine ⟨_, rfl, rfl, _, .str x, _, rfl, iteT ⟨_, rfl, d, rfl, .inl ⟨kvs, .inl hd⟩, _, rfl, _, rfl, _, DGet.k (k := Sum.inr x) hd, ?_⟩⟩
      rw [hs x hw]
      exact q _ _ (Same.refl _) rfl
    | false =>
      obtain ⟨p, ks, rfl, hp, hks⟩ := tm_tup ht nn
      have hkl : ks.length = t.kids.length := (Paired.length hks).symm
      have hlen := kids_len nn
      refine ⟨_, rfl, rfl, _, .tup hp, _, rfl, iteF ⟨_, rfl, _, _, _, _, rfl, rfl, SqT.of hp, at0, by show 1 ≤ sizeLine; decide, fun p1 hp1 => ⟨_, rfl, _, rfl, ?_⟩⟩⟩
      refine sl1 (K := K) (a := .str t.hd) (ks := ks) (SqT.of ((sUp hp1) _ _ hp)) fun p' hp' => ?_
      refine ⟨p', rfl, ⟨_, SqT.of upd_same⟩, fun L hL => lc_map walk_tup (fun i H' v => ∃ k, t.kids[i]? = some k ∧ TmV H' (k.map f) v) (lt_line (by omega)) hL (fun i H1 H2 v tu ⟨k, e1, e2⟩ => ⟨k, e1, e2.mono tu⟩) (fun H1 k => SqT.of (k _ _ upd_same)) (fun i y H1 H2 N' hi k y1 n' => ?_) (fun H1 acc k ha hl hr => ?_)⟩
      · obtain ⟨rfl, hy⟩ := y1
        obtain ⟨kt, hkt⟩ : ∃ kt, t.kids[i]? = some kt := ⟨_, List.getElem?_eq_getElem (by omega)⟩
        have kH : Same H H2 := (sUp hp1).trans ((sUp hp').trans k)
        obtain ⟨y', hy', hty⟩ := paired_at hks hkt
        have e : y' = y := by rw [hy] at hy'; exact (Option.some.inj hy').symm
        subst e
        have hmem : kt ∈ t.kids := List.mem_of_getElem? hkt
        have hdk := kdepth hmem
        exact ⟨rfl, _, rfl, _, rfl, f, N, _, kt, d, kvs, rfl, hty.same kH, WF.kid hw hmem, by omega, kH _ _ hd, hs, fun v' H' k' hv => n' _ _ k' ⟨kt, hkt, hv⟩⟩
      · have kH : Same H H1 := (sUp hp1).trans ((sUp hp').trans k)
        refine ⟨L, acc, rfl, .inl ⟨SqL.of ha, fun p2 hp2 => ?_⟩⟩
        have h1 : upd H1 p2 (.tup acc) p1 = some (.tup [.str t.hd]) := (sUp hp2) _ _ (k _ _ ((sUp hp') _ _ upd_same))
        refine ⟨p1, p2, [.str t.hd], acc, rfl, rfl, SqT.of h1, SqT.of upd_same, le_line (by simp; omega), fun z => (by cases z), fun _ z => ?_, fun _ _ p3 hp3 => ?_⟩
        · subst z
          simp at hl
          omega
        · have m := map_hd (f := f) nn
          refine q _ _ (kH.trans ((sUp hp2).trans (sUp hp3))) (tm_of (t := t.map f) (ks := acc) (by rw [upd_same, m.1]; rfl) m.2.2 ?_)
          rw [m.2.1]
          refine paired_of (by simp; omega) fun i a b e1 e2 => ?_
          obtain ⟨k1, e3, e4⟩ := hr i b e2
          rw [List.getElem?_map, e3] at e1
          cases e1
          exact e4.same ((sUp hp2).trans (sUp hp3))
abbrev N_renamed : List PySem.Str := ["term", "names"]
abbrev P_renamed : List PySem.Str := ["term", "names"]
theorem sc_renamed : FnScope N_renamed P_renamed (defScope s_renamed) := ⟨rfl, rfl, rfl, by decide +kernel, rfl, by decide +kernel, by decide +kernel⟩
def sp_renamed : Sp := fun vs H Q _ => ∃ (f : PySem.Str → PySem.Str) (N : PySem.Str → Prop) (v : V) (t : Tm) (d : Addr) (kvs : List (Key × V)), (∀ x, N x → NameOk x) ∧ vs = [v, .ref d] ∧ TmV H t v ∧ WF N t ∧ t.depth ≤ 5 ∧ H d = some (.dK kvs) ∧ Says f N kvs ∧ NDict kvs ∧ (kvs.map (·.1)).Nodup ∧ kvs.length ≤ 1000 ∧ ∀ v' H', Same H H' → TmV H' (t.map f) v' → Q v' H'
theorem WF.up {N M : PySem.Str → Prop} (h : ∀ x, N x → M x) {t : Tm} (hw : WF N t) : WF M t := WF.mono h hw
theorem c_renamed (D : Dfn K mg "renamed" s_renamed) (T : Gs K mg w) (c_check_term : C8.Cal P w K mg base 11 "check_term" sp_check_term []) (c_is_name_dict : C8.Cal P w K mg base 2 "is_name_dict" sp_is_name_dict [])
    (c_replaced : C8.Cal P w K mg base 6 "replaced" (sp_replaced 5) []) : C8.Cal P w K mg base 12 "renamed" sp_renamed [] := by
  have sc := sc_renamed
  refine mkCal D (fun _ _ _ _ _ _ us hl => match us, hl with | [_, _], _ => rfl) sc (fun vs H Q E h => by obtain ⟨f, N, v, t, d, kvs, _, rfl, _⟩ := h; rfl) fun cdv A outer s H vs Q E ff hr h => ?_
  obtain ⟨f, N, v, t, d, kvs, hN, rfl, ht, hw, hn, hd, hs, hnd, nd, hl, q⟩ := h
  refine ⟨_, (pss_cons (ps_expr (C8.pe_c c_check_term hr (by first | decide | omega) rfl (pa_cons (pv 0) pa_nil))) (pss_cons (ps_if (pt_not (pt_val (C8.pe_c c_is_name_dict hr (by first | decide | omega) rfl (pa_cons (pv 1) pa_nil)))) (pss_one ps_never) pss_nil) (pss_one (ps_ret (C8.pe_c c_replaced hr (by first | decide | omega) rfl (pa_cons (pv 0) (pa_cons (pv 1) pa_nil))))))), ?_⟩
  refine ⟨_, rfl, v, t, rfl, ht, WF.up hN hw, hn, fun H1 k1 => ⟨_, rfl, d, kvs, rfl, k1 _ _ hd, hnd, nd, hl, fun H2 k2 => ⟨_, rfl, iteF ⟨_, rfl, _, rfl, f, N, v, t, d, kvs, rfl, ht.same (k1.trans k2), hw, hn, k2 _ _ (k1 _ _ hd), hs, fun v' H3 k3 h3 => q v' H3 (k1.trans (k2.trans k3)) h3⟩⟩⟩⟩
end
end Kt
/-! The walks: checks. -/
namespace Kt
open PySem PySem.Spec PyProof.Rows L2
open Tm
section
variable {P : Program} {w : World} {K : PySem.W.Frag} {mg : PySem.Str → Option Value} {base : Heap}
/-! ### wordings -/
theorem ln_add (x y : PySem.Str) : (x ++ y).length = x.length + y.length := by
  show (x.cps ++ y.cps).size = _
  exact Array.size_append ..
theorem tl_add (x y : PySem.Str) : (x ++ y).cps.toList = x.cps.toList ++ y.cps.toList := by
  show (x.cps ++ y.cps).toList = _
  exact Array.toList_append ..
theorem tl_sp (t : Tm) : (sp t).cps.toList = spl t := rfl
theorem cat_le {x y : PySem.Str} {m n : Nat} (hx : x.length ≤ m) (hy : y.length ≤ n) : (x ++ y).length ≤ m + n := by rw [ln_add]; omega
theorem add_le {x y : PySem.Str} {m n : Nat} (hx : x.length ≤ m) (hy : y.length ≤ n) (h : m + n ≤ 100000) : x.length + y.length ≤ sizeLine := le_line (by omega)
theorem eqS {x y : PySem.Str} {b : Bool} (h : decide (x = y) = b) : decide (V.str x = V.str y) = b := by
  rw [← h]
  by_cases e : x = y
  · subst e; simp
  · rw [decide_eq_false e]
    exact decide_eq_false fun z => e (V.str.inj z)
theorem hdU {g : G1} {a : Tm} {y : PySem.Str} {b : Bool} (h : decide (g.s = y) = b) : decide (V.str (Tm.un g a).hd = V.str y) = b := eqS h
theorem hdB {g : G2} {a c : Tm} {y : PySem.Str} {b : Bool} (h : decide (g.s = y) = b) : decide (V.str (Tm.bi g a c).hd = V.str y) = b := eqS h
theorem no_var {t : Tm} (nn : t.isNm = false) : decide (V.str t.hd = V.str "var") = false := by
  cases t with
  | nm x => cases nn
  | un g a => cases g <;> exact hdU (by decide +kernel)
  | bi g a b => cases g <;> exact hdB (by decide +kernel)
theorem sp_nm (x : PySem.Str) : sp (.nm x) = x := str_ext rfl
theorem sp_half (a : Tm) : sp (.un .half a) = "half " ++ sp a := str_ext (by rw [tl_add]; rfl)
theorem sp_mix (a : Tm) : sp (.un .mix a) = "mix(" ++ sp a ++ ")" := str_ext (by rw [tl_add, tl_add]; rfl)
theorem sp_pair (a b : Tm) : sp (.bi .pair a b) = "(" ++ sp a ++ " & " ++ sp b ++ ")" := str_ext (by rw [tl_add, tl_add, tl_add, tl_add]; rfl)
theorem sp_boxN (x : PySem.Str) (b : Tm) : sp (.bi .box (.nm x) b) = "[" ++ sp b ++ "]" ++ x := str_ext (by rw [tl_add, tl_add, tl_add]; rfl)
theorem sp_boxT (a b : Tm) (h : a.isNm = false) : sp (.bi .box a b) = "[" ++ sp b ++ "]" ++ ("<" ++ sp a ++ ">") := str_ext (by
  rw [tl_add, tl_add, tl_add, tl_add, tl_add]
  show spl (.bi .box a b) = _
  unfold spl
  rw [h]
  rfl)
theorem sp_boxT2 (a b : Tm) (h : a.isNm = false) : sp (.bi .box a b) = "[" ++ sp b ++ "]<" ++ sp a ++ ">" := str_ext (by
  rw [tl_add, tl_add, tl_add, tl_add]
  show spl (.bi .box a b) = _
  unfold spl
  rw [h]
  simp only [tl_sp, Bool.false_eq_true, if_false, List.append_assoc]
  rfl)
theorem sp_shut (a b : Tm) : sp (.bi .shut a b) = "{" ++ sp b ++ "}" ++ sp a := str_ext (by rw [tl_add, tl_add, tl_add]; rfl)
theorem sp_mark (a b : Tm) : sp (.bi .mark a b) = "(" ++ sp b ++ "!" ++ sp a ++ ")" := str_ext (by rw [tl_add, tl_add, tl_add, tl_add]; rfl)
theorem sp_len {t : Tm} (hw : WF NameOk t) (h : t.depth ≤ 6) : (sp t).length ≤ 416 := by
  rw [sp_length]
  have := spl_len (N := NameOk) (fun _ h => h) 5 hw h
  omega
abbrev N_spelled : List PySem.Str := ["term", "parts", "bare", "part"]
abbrev P_spelled : List PySem.Str := ["term"]
theorem sc_spelled : FnScope N_spelled P_spelled (defScope s_spelled) := ⟨rfl, rfl, rfl, by decide +kernel, rfl, by decide +kernel, by decide +kernel⟩
def sp_spelled (n : Nat) : Sp := fun vs H Q _ => ∃ v t, vs = [v] ∧ TmV H t v ∧ WF NameOk t ∧ t.depth ≤ n ∧ t.depth ≤ 6 ∧ ∀ H', Same H H' → Q (.str (sp t)) H'
theorem c_spelled (D : Dfn K mg "spelled" s_spelled) (T : Gs K mg w) : ∀ n, C8.Cal P w K mg base (n + 1) "spelled" (sp_spelled n) [] := by
  have sc := sc_spelled
  intro n
  induction n with
  | zero =>
    refine mkCal D (fun _ _ _ _ _ _ us hl => match us, hl with | [_], _ => rfl) sc (fun vs H Q E h => by obtain ⟨v, t, rfl, _⟩ := h; rfl) fun cdv A outer s H vs Q E f hr h => ?_
    obtain ⟨v, t, rfl, _, _, h0, _⟩ := h
    exact absurd (depth_pos t) (by omega)
  | succ n c_spelled =>
    refine mkCal D (fun _ _ _ _ _ _ us hl => match us, hl with | [_], _ => rfl) sc (fun vs H Q E h => by obtain ⟨v, t, rfl, _⟩ := h; rfl) fun cdv A outer s H vs Q E ff hr h => ?_
    obtain ⟨v, t, rfl, ht, hw, hn, h6, q⟩ := h
    refine ⟨_, (pss_cons (ps_if (pt_val (pe_callB (call_isK .str) rfl T.isinstance (by decide +kernel) (pa_cons (pv 0) (pa_cons (pe_kn .str rfl T.str) pa_nil)))) (pss_one (ps_ret (pv 0))) pss_nil) (pss_cons (ps_if (pt_cmpR op_eq (pe_ix ix_tup (pv 0) pe_int (fun _ _ => rfl)) (C8.pe_gc rfl T.VAR) (nomark _)) (pss_one ps_never) pss_nil) (C8.pss_cut (ps_setLc (i := 1) (own := [("part", 3)]) (g := gName 3) (tt := tYes) rfl sc.nd rfl rfl (sw_true rfl rfl rfl (by decide +kernel)) (pi_tup (pe_slice sl_tup (pv 0) (po_some pe_int) po_no)) (blkOk_by (N := N_spelled) (sc := defScope s_spelled) (by decide +kernel)) (fun _ _ _ _ _ => (pg_name (i := 3) sc.nd rfl (Or.inl rfl))) (fun _ _ _ _ _ => pts_nil) (fun _ _ _ _ _ => (C8.pe_c c_spelled hr (by first | decide | omega) rfl (pa_cons (pv 3) pa_nil)))) (pss_cons (ps_if (pt_cmpR op_eq (pe_ix ix_tup (pv 0) pe_int (fun _ _ => rfl)) (C8.pe_gc rfl T.PAIR) (nomark _)) (pss_one (ps_ret (pe_op op_add_str (pe_op op_add_str (pe_op op_add_str (pe_op op_add_str pe_str (pe_ix ix_list (pv 1) pe_int (fun _ _ => rfl))) (C8.pe_gc rfl T.AND)) (pe_ix ix_list (pv 1) pe_int (fun _ _ => rfl))) pe_str))) pss_nil) (pss_cons (ps_if (pt_cmpR op_eq (pe_ix ix_tup (pv 0) pe_int (fun _ _ => rfl)) (C8.pe_gc rfl T.BOX) (nomark _)) (pss_cons (ps_set (i := 2) sc.nd rfl (Or.inl rfl) (pe_or (pe_callB (call_isK .str) rfl T.isinstance (by decide +kernel) (pa_cons (pe_ix ix_tup (pv 0) pe_int (fun _ _ => rfl)) (pa_cons (pe_kn .str rfl T.str) pa_nil))) (pe_one (pe_cmpR op_eq (pe_ix ix_tup (pe_ix ix_tup (pv 0) pe_int (fun _ _ => rfl)) pe_int (fun _ _ => rfl)) (C8.pe_gc rfl T.VAR) (nomark _))))) (pss_one (ps_ret (pe_op op_add_str (pe_op op_add_str (pe_op op_add_str pe_str (pe_ix ix_list (pv 1) pe_int (fun _ _ => rfl))) pe_str) (pe_ifExp (pt_val (pv 2)) (pe_ix ix_list (pv 1) pe_int (fun _ _ => rfl)) (pe_op op_add_str (pe_op op_add_str pe_str (pe_ix ix_list (pv 1) pe_int (fun _ _ => rfl))) pe_str)))))) pss_nil) (pss_cons (ps_if (pt_cmpR op_eq (pe_ix ix_tup (pv 0) pe_int (fun _ _ => rfl)) (C8.pe_gc rfl T.HALF) (nomark _)) (pss_one (ps_ret (pe_op op_add_str pe_str (pe_ix ix_list (pv 1) pe_int (fun _ _ => rfl))))) pss_nil) (pss_cons (ps_if (pt_cmpR op_eq (pe_ix ix_tup (pv 0) pe_int (fun _ _ => rfl)) (C8.pe_gc rfl T.SHUT) (nomark _)) (pss_one (ps_ret (pe_op op_add_str (pe_op op_add_str (pe_op op_add_str pe_str (pe_ix ix_list (pv 1) pe_int (fun _ _ => rfl))) pe_str) (pe_ix ix_list (pv 1) pe_int (fun _ _ => rfl))))) pss_nil) (pss_cons (ps_if (pt_cmpR op_eq (pe_ix ix_tup (pv 0) pe_int (fun _ _ => rfl)) (C8.pe_gc rfl T.MARK) (nomark _)) (pss_one (ps_ret (pe_op op_add_str (pe_op op_add_str (pe_op op_add_str (pe_op op_add_str pe_str (pe_ix ix_list (pv 1) pe_int (fun _ _ => rfl))) pe_str) (pe_ix ix_list (pv 1) pe_int (fun _ _ => rfl))) pe_str))) pss_nil) (pss_one (ps_ret (pe_op op_add_str (pe_op op_add_str pe_str (pe_ix ix_list (pv 1) pe_int (fun _ _ => rfl))) pe_str))))))))))), ?_⟩
    cases nn : t.isNm with
    | true =>
      obtain ⟨x, rfl, rfl⟩ := tmNm ht nn
      refine ⟨_, rfl, rfl, _, .str x, _, rfl, iteT ⟨_, rfl, ?_⟩⟩
      have := q H (Same.refl _)
      rw [sp_nm] at this
      exact this
    | false =>
      obtain ⟨p, ks, rfl, hp, hks⟩ := tm_tup ht nn
      have hkl : ks.length = t.kids.length := (Paired.length hks).symm
      have hlen := kids_len nn
      have hvar := no_var nn
      refine ⟨_, rfl, rfl, _, .tup hp, _, rfl, iteF ⟨_, rfl, _, _, _, _, rfl, rfl, SqT.of (hp), at0, rfl, _, rfl, ifF hvar ⟨fun σ' H' => ∃ L, σ' = (L2.start N_spelled [.ref p]).set 1 (some (.ref L)) ∧ Same H H' ∧ H' L = some (.lst (t.kids.map fun k => V.str (sp k))), ?_, fun σ' H0 m => ?_⟩⟩⟩
      · refine ⟨_, rfl, _, rfl, ?_⟩
        refine sl1 (K := K) (a := .str t.hd) (ks := ks) (SqT.of hp) fun p' hp' => ?_
        refine ⟨p', rfl, ⟨_, SqT.of upd_same⟩, fun L hL => lc_map walk_tup (fun i H' v => ∃ k, t.kids[i]? = some k ∧ v = .str (sp k)) (lt_line (by omega)) hL (fun _ _ _ _ _ e => e) (fun H1 k => SqT.of (k _ _ upd_same)) (fun i y H1 H2 N' hi k y1 n' => ?_) (fun H1 acc k ha hl hr => ?_)⟩
        · obtain ⟨rfl, hy⟩ := y1
          obtain ⟨kt, hkt⟩ : ∃ kt, t.kids[i]? = some kt := ⟨_, List.getElem?_eq_getElem (by omega)⟩
          have kH : Same H H2 := (sUp hp').trans k
          obtain ⟨y', hy', hty⟩ := paired_at hks hkt
          have e : y' = y := by rw [hy] at hy'; exact (Option.some.inj hy').symm
          subst e
          have hmem : kt ∈ t.kids := List.mem_of_getElem? hkt
          have hdk := kdepth hmem
          exact ⟨rfl, _, rfl, _, kt, rfl, hty.same kH, WF.kid hw hmem, by omega, by omega, fun H' k' => n' _ _ k' ⟨kt, hkt, rfl⟩⟩
        · exact ⟨L, rfl, (sUp hp').trans k, ha.trans (congrArg (fun z => some (HO.lst z)) (accMap (f := fun k => V.str (sp k)) (by omega) hr))⟩
      · obtain ⟨L, rfl, k0, hL⟩ := m
        have hp := k0 _ _ hp
        have q := q _ k0
        have hkid : ∀ k ∈ t.kids, (sp k).length ≤ 416 := fun k hk => sp_len (WF.kid hw hk) (by have := kdepth hk; omega)
        cases t with
        | nm x => cases nn
        | un g a =>
          have la := hkid a (by simp [Tm.kids])
          cases g with
          | half =>
            rw [sp_half] at q
            refine ⟨_, rfl, _, _, _, _, rfl, rfl, SqT.of (hp), at0, rfl, _, rfl, ifF (hdU (by decide +kernel)) ⟨_, rfl, _, _, _, _, rfl, rfl, SqT.of (hp), at0, rfl, _, rfl, ifF (hdU (by decide +kernel)) ⟨_, rfl, _, _, _, _, rfl, rfl, SqT.of (hp), at0, rfl, _, rfl, ifT (hdU (by decide +kernel)) ⟨_, rfl, _, _, _, _, rfl, rfl, SqL.of (hL), at0, _, _, rfl, rfl, add_le (m := 10) (by decide) la (by decide), q⟩⟩⟩⟩
          | mix =>
            rw [sp_mix] at q
            refine ⟨_, rfl, _, _, _, _, rfl, rfl, SqT.of (hp), at0, rfl, _, rfl, ifF (hdU (by decide +kernel)) ⟨_, rfl, _, _, _, _, rfl, rfl, SqT.of (hp), at0, rfl, _, rfl, ifF (hdU (by decide +kernel)) ⟨_, rfl, _, _, _, _, rfl, rfl, SqT.of (hp), at0, rfl, _, rfl, ifF (hdU (by decide +kernel)) ⟨_, rfl, _, _, _, _, rfl, rfl, SqT.of (hp), at0, rfl, _, rfl, ifF (hdU (by decide +kernel)) ⟨_, rfl, _, _, _, _, rfl, rfl, SqT.of (hp), at0, rfl, _, rfl, ifF (hdU (by decide +kernel)) ?_⟩⟩⟩⟩⟩
            exact ⟨_, rfl, _, _, _, _, rfl, rfl, SqL.of (hL), at0, _, _, rfl, rfl, add_le (m := 10) (by decide) la (by decide), _, _, rfl, rfl, add_le (cat_le (m := 10) (by decide) la) (n := 10) (by decide) (by decide), q⟩
        | bi g a b =>
          have la := hkid a (by simp [Tm.kids])
          have lb := hkid b (by simp [Tm.kids])
          cases g with
          | pair =>
            rw [sp_pair] at q
            exact ⟨_, rfl, _, _, _, _, rfl, rfl, SqT.of (hp), at0, rfl, _, rfl, ifT (hdB (by decide +kernel)) ⟨_, rfl, _, _, _, _, rfl, rfl, SqL.of (hL), at0, _, _, rfl, rfl, add_le (m := 10) (by decide) la (by decide), _, _, rfl, rfl, add_le (cat_le (m := 10) (by decide) la) (n := 10) (by decide) (by decide),
              _, rfl, _, _, _, _, rfl, rfl, SqL.of (hL), at1, _, _, rfl, rfl, add_le (cat_le (cat_le (m := 10) (by decide) la) (n := 10) (by decide)) lb (by decide), _, _, rfl, rfl, add_le (cat_le (cat_le (cat_le (m := 10) (by decide) la) (n := 10) (by decide)) lb) (n := 10) (by decide) (by decide), q⟩⟩
          | box =>
            refine ⟨_, rfl, _, _, _, _, rfl, rfl, SqT.of (hp), at0, rfl, _, rfl, ifF (hdB (by decide +kernel)) ⟨_, rfl, _, _, _, _, rfl, rfl, SqT.of (hp), at0, rfl, _, rfl, ifT (hdB (by decide +kernel)) ?_⟩⟩
            have hta := ht.same k0
            obtain ⟨p9, va, vb, e9, hp9, ha9, hb9⟩ := hta
            cases e9
            cases na : a.isNm with
            | true =>
              obtain ⟨x, rfl, rfl⟩ := tmNm ha9 na
              rw [sp_boxN] at q
              rw [sp_nm] at la
              exact ⟨_, rfl, _, _, _, _, rfl, rfl, SqT.of (hp9), at1, rfl, _, .str x, _, rfl, iteT ⟨_, rfl, _, _, _, _, rfl, rfl, SqL.of (hL), at1, _, _, rfl, rfl, add_le (m := 10) (by decide) lb (by decide), _, _, rfl, rfl, add_le (cat_le (m := 10) (by decide) lb) (n := 10) (by decide) (by decide),
                _, rfl, _, rfl, iteT ⟨_, rfl, _, _, _, _, rfl, rfl, SqL.of (hL), at0, _, _, rfl, rfl, add_le (cat_le (cat_le (m := 10) (by decide) lb) (n := 10) (by decide)) (by rw [sp_nm]; exact la) (by decide), by rw [sp_nm]; exact q⟩⟩⟩
            | false =>
              rw [sp_boxT a b na] at q
              obtain ⟨pa, ksa, rfl, hpa, _⟩ := tm_tup ha9 na
              have hvar2 := no_var na
              refine ⟨_, rfl, _, _, _, _, rfl, rfl, SqT.of (hp9), at1, rfl, _, .tup hpa, _, rfl, iteF ⟨_, rfl, _, _, _, _, rfl, rfl, SqT.of (hp9), at1, _, _, _, _, rfl, rfl, SqT.of (hpa), at0, rfl, ?_⟩⟩
              rw [hvar2]
              exact ⟨_, rfl, _, _, _, _, rfl, rfl, SqL.of (hL), at1, _, _, rfl, rfl, add_le (m := 10) (by decide) lb (by decide), _, _, rfl, rfl, add_le (cat_le (m := 10) (by decide) lb) (n := 10) (by decide) (by decide),
                _, rfl, _, rfl, iteF ⟨_, rfl, _, _, _, _, rfl, rfl, SqL.of (hL), at0, _, _, rfl, rfl, add_le (m := 10) (by decide) la (by decide), _, _, rfl, rfl, add_le (cat_le (m := 10) (by decide) la) (n := 10) (by decide) (by decide), _, _, rfl, rfl, add_le (cat_le (cat_le (m := 10) (by decide) lb) (n := 10) (by decide)) (cat_le (cat_le (m := 10) (by decide) la) (n := 10) (by decide)) (by decide), q⟩⟩
          | shut =>
            rw [sp_shut] at q
            exact ⟨_, rfl, _, _, _, _, rfl, rfl, SqT.of (hp), at0, rfl, _, rfl, ifF (hdB (by decide +kernel)) ⟨_, rfl, _, _, _, _, rfl, rfl, SqT.of (hp), at0, rfl, _, rfl, ifF (hdB (by decide +kernel)) ⟨_, rfl, _, _, _, _, rfl, rfl, SqT.of (hp), at0, rfl, _, rfl, ifF (hdB (by decide +kernel)) ⟨_, rfl, _, _, _, _, rfl, rfl, SqT.of (hp), at0, rfl, _, rfl, ifT (hdB (by decide +kernel)) ⟨_, rfl, _, _, _, _, rfl, rfl, SqL.of (hL), at1, _, _, rfl, rfl, add_le (m := 10) (by decide) lb (by decide), _, _, rfl, rfl, add_le (cat_le (m := 10) (by decide) lb) (n := 10) (by decide) (by decide),
              _, rfl, _, _, _, _, rfl, rfl, SqL.of (hL), at0, _, _, rfl, rfl, add_le (cat_le (cat_le (m := 10) (by decide) lb) (n := 10) (by decide)) la (by decide), q⟩⟩⟩⟩⟩
          | mark =>
            rw [sp_mark] at q
            exact ⟨_, rfl, _, _, _, _, rfl, rfl, SqT.of (hp), at0, rfl, _, rfl, ifF (hdB (by decide +kernel)) ⟨_, rfl, _, _, _, _, rfl, rfl, SqT.of (hp), at0, rfl, _, rfl, ifF (hdB (by decide +kernel)) ⟨_, rfl, _, _, _, _, rfl, rfl, SqT.of (hp), at0, rfl, _, rfl, ifF (hdB (by decide +kernel)) ⟨_, rfl, _, _, _, _, rfl, rfl, SqT.of (hp), at0, rfl, _, rfl, ifF (hdB (by decide +kernel)) ⟨_, rfl, _, _, _, _, rfl, rfl, SqT.of (hp), at0, rfl, _, rfl, ifT (hdB (by decide +kernel)) ⟨_, rfl, _, _, _, _, rfl, rfl, SqL.of (hL), at1, _, _, rfl, rfl, add_le (m := 10) (by decide) lb (by decide), _, _, rfl, rfl, add_le (cat_le (m := 10) (by decide) lb) (n := 10) (by decide) (by decide),
              _, rfl, _, _, _, _, rfl, rfl, SqL.of (hL), at0, _, _, rfl, rfl, add_le (cat_le (cat_le (m := 10) (by decide) lb) (n := 10) (by decide)) la (by decide), _, _, rfl, rfl, add_le (cat_le (cat_le (cat_le (m := 10) (by decide) lb) (n := 10) (by decide)) la) (n := 10) (by decide) (by decide), q⟩⟩⟩⟩⟩⟩
theorem nodup_map_on {α β : Type} {f : α → β} : ∀ {l : List α}, l.Nodup → (∀ a b, a ∈ l → b ∈ l → f a = f b → a = b) → (l.map f).Nodup
  | [], _, _ => List.nodup_nil
  | x :: l, h, inj => by
    rw [List.nodup_cons] at h
    rw [List.map_cons, List.nodup_cons]
    refine ⟨fun hm => ?_, nodup_map_on h.2 fun a b ha hb e => inj a b (List.mem_cons_of_mem _ ha) (List.mem_cons_of_mem _ hb) e⟩
    obtain ⟨y, hy, e⟩ := List.mem_map.mp hm
    have := inj y x (List.mem_cons_of_mem _ hy) (List.mem_cons_self ..) e
    subst this
    exact h.1 hy
theorem dc_it {J : It} {n : Nat} {G : Hp → Prop} {Y : Nat → Hp → V → Hp → Prop} (w : Walk J n G Y) {g : TG} {tk tv : TE} {vs : List Nat} {σ : L2.St} {H1 : Hp} {D : Addr} {Qd : Hp → Prop} (Pv : Nat → Hp → Prop) (h0 : Pv 0 (upd H1 D (.dK []))) (hG : ∀ i H, i ≤ n → Pv i H → G H)
    (hs : ∀ i x H H', i < n → Pv i H → Y i H x H' → g x (wipe σ vs) H' fun σ2 H2 => wipe σ2 vs = wipe σ vs ∧ tk σ2 H2 fun y H4 => tv σ2 H4 fun z H5 => ∃ kvs k, y = kV k ∧ H5 D = some (.dK kvs) ∧ kvs.length < sizeLine ∧ Pv (i + 1) (upd H5 D (.dK (putK kvs k z)))) (hd : ∀ H, Pv n H → Qd H) :
    ∃ W : Nat → Nat → Hp → Prop, (∃ m, W 0 m (upd H1 D (.dK []))) ∧ ∀ i m H, W i m H →
      (J.stop i H ∧ Qd H) ∨ (J.go i H ∧ ∃ Nx : Hp → Prop, (∀ H', Nx H' → ∃ m', m' < m ∧ W (i + 1) m' H') ∧ ∀ x H', J.yld i H x H' → g x (wipe σ vs) H' fun σ2 H2 => wipe σ2 vs = wipe σ vs ∧ tYes σ2 H2 fun b H3 =>
        if b = true then tk σ2 H3 fun y H4 => tv σ2 H4 fun z H5 => ∃ kvs k, y = kV k ∧ H5 D = some (.dK kvs) ∧ kvs.length < sizeLine ∧ Nx (upd H5 D (.dK (putK kvs k z))) else Nx H3) := by
  refine ⟨fun i m H => m = n - i ∧ i ≤ n ∧ Pv i H, ⟨n, by simp, Nat.zero_le _, h0⟩, ?_⟩
  rintro i m H ⟨rfl, hi, p⟩
  have q := hG i H hi p
  by_cases hlt : i < n
  · exact .inr ⟨w.goes i H hlt q, Pv (i + 1), fun H' p' => ⟨n - (i + 1), by omega, rfl, hlt, p'⟩, fun x H' y => hs i x H H' hlt p (w.yields i H x H' hlt q y)⟩
  · have e : i = n := by omega
    subst e
    exact .inl ⟨w.stops H q, hd H p⟩
theorem walk_td {w : World} {d : Addr} {es : Array DictEntry} {ep : Nat} {l : List (Tm × V)} : Walk (ItTd d es ep w l) l.length (fun H => H d = some (TdO d es ep) ∧ Paired (EntOk w H) l es.toList) (fun i H x H' => H' = H ∧ ∃ p, l[i]? = some p ∧ TmV H p.1 x) :=
  ⟨fun i H hi q => ⟨q.1, q.2, hi⟩, fun H q => ⟨q.1, q.2, Nat.le_refl _⟩, fun i H x H' _ _ y => y⟩
theorem ents_tups {w : World} {H H' : Hp} (k : Tups H H') {l : List (Tm × V)} {es : List DictEntry} (h : Paired (EntOk w H) l es) : Paired (EntOk w H') l es := Paired.mapP h fun _ _ q => q.mono k
/-- the wordings' dict, so far -/
def Wd (H : Hp) (F : List Tm) (kvs : List (Key × V)) (i : Nat) : Prop := kvs.length = i ∧ ∀ (j : Nat) (kv : Key × V), kvs[j]? = some kv → ∃ t, F[j]? = some t ∧ kv.1 = Sum.inr (sp t) ∧ TmV H t kv.2
theorem Wd.mono {H H' : Hp} {F : List Tm} {kvs : List (Key × V)} {i : Nat} (h : Wd H F kvs i) (k : Tups H H') : Wd H' F kvs i := ⟨h.1, fun j kv e => let ⟨t, a, b, c⟩ := h.2 j kv e; ⟨t, a, b, c.mono k⟩⟩
theorem Wd.new {H : Hp} {F : List Tm} {kvs : List (Key × V)} {i : Nat} {t : Tm} (h : Wd H F kvs i) (hF : All NameOk F) (hn : F.Nodup) (ht : F[i]? = some t) : valV kvs (Sum.inr (sp t)) = none := by
  rw [valV_none_iff]
  intro hm
  obtain ⟨kv, hkv, e⟩ := List.mem_map.mp hm
  obtain ⟨j, hj⟩ := List.getElem?_of_mem hkv
  obtain ⟨u, hu, e2, _⟩ := h.2 j kv hj
  have e3 : sp u = sp t := by
    rw [e2] at e
    exact Sum.inr.inj e
  have e4 := sp_inj (N := NameOk) (fun _ h => h) (hF u (List.mem_of_getElem? hu)) (hF t (List.mem_of_getElem? ht)) e3
  subst e4
  have hj' : j < i := by rw [← h.1]; exact (List.getElem?_eq_some_iff.mp hj).1
  exact absurd (nd_ix hn hu ht) (by omega)
theorem Wd.put {H : Hp} {F : List Tm} {kvs : List (Key × V)} {i : Nat} {t : Tm} {v : V} (h : Wd H F kvs i) (hF : All NameOk F) (hn : F.Nodup) (ht : F[i]? = some t) (hv : TmV H t v) : Wd H F (putK kvs (Sum.inr (sp t)) v) (i + 1) := by
  rw [putK_new v (h.new hF hn ht)]
  refine ⟨by simp [h.1], fun j kv e => ?_⟩
  by_cases hj : j < kvs.length
  · rw [List.getElem?_append_left hj] at e
    exact h.2 j kv e
  · rw [List.getElem?_append_right (by omega)] at e
    have ej : j = kvs.length := by
      cases hk : j - kvs.length with
      | zero => omega
      | succ m => rw [hk] at e; simp at e
    subst ej
    simp at e
    subst e
    rw [h.1]
    exact ⟨t, ht, rfl, hv⟩
theorem Wd.keys {H : Hp} {F : List Tm} {kvs : List (Key × V)} (h : Wd H F kvs F.length) : kvs.map (·.1) = (F.map sp).map Sum.inr := by
  refine ext_at (by simp [h.1]) fun i v u e1 e2 => ?_
  rw [List.getElem?_map] at e1
  cases e3 : kvs[i]? with
  | none => rw [e3] at e1; cases e1
  | some kv =>
    rw [e3] at e1
    obtain ⟨t, a, b, _⟩ := h.2 i kv e3
    rw [List.getElem?_map, List.getElem?_map, a] at e2
    cases e1
    cases e2
    exact b
theorem Wd.get {H : Hp} {F : List Tm} {kvs : List (Key × V)} {t : Tm} (h : Wd H F kvs F.length) (hF : All NameOk F) (hn : F.Nodup) (ht : t ∈ F) : ∃ v, valV kvs (Sum.inr (sp t)) = some v ∧ TmV H t v := by
  cases e : valV kvs (Sum.inr (sp t)) with
  | none =>
    rw [valV_none_iff, h.keys] at e
    exact (e (List.mem_map.mpr ⟨_, List.mem_map.mpr ⟨t, ht, rfl⟩, rfl⟩)).elim
  | some v =>
    refine ⟨v, rfl, ?_⟩
    have nd : (kvs.map (·.1)).Nodup := by
      rw [h.keys]
      refine nodup_map_on (f := fun x : PySem.Str => (Sum.inr x : Key)) ?_ fun a b _ _ e => Sum.inr.inj e
      exact nodup_map_on hn fun a b ha hb e => sp_inj (N := NameOk) (fun _ h => h) (hF a ha) (hF b hb) e
    obtain ⟨p, hp, hk, hv⟩ : ∃ p, p ∈ kvs ∧ p.1 = Sum.inr (sp t) ∧ p.2 = v := by
      have hm := valV_in e
      obtain ⟨p, hp, e2⟩ := List.mem_map.mp hm
      refine ⟨p, hp, e2, ?_⟩
      obtain ⟨i, hi⟩ := List.getElem?_of_mem hp
      have := valV_get nd hi
      rw [e2, e] at this
      exact (Option.some.inj this).symm
    obtain ⟨i, hi⟩ := List.getElem?_of_mem hp
    obtain ⟨u, a, b, c⟩ := h.2 i p hi
    have e3 : sp u = sp t := Sum.inr.inj (b.symm.trans hk)
    have e4 := sp_inj (N := NameOk) (fun _ h => h) (hF u (List.mem_of_getElem? a)) (hF t ht) e3
    subst e4 hv
    exact c
abbrev N_by_wordings : List PySem.Str := ["terms", "table", "term", "text"]
abbrev P_by_wordings : List PySem.Str := ["terms"]
theorem sc_by_wordings : FnScope N_by_wordings P_by_wordings (defScope s_by_wordings) := ⟨rfl, rfl, rfl, by decide +kernel, rfl, by decide +kernel, by decide +kernel⟩
def sp_by_wordings : Sp := fun vs H Q _ => ∃ d l, vs = [.ref d] ∧ TD w H d l ∧ l.length < 64 ∧ All NameOk (l.map (·.1)) ∧ (∀ t ∈ l.map (·.1), t.depth ≤ 5) ∧
  ∀ p H' ts us, Same H H' → InOrder (l.map (·.1)) ts → TmVs H' ts us → H' p = some (.lst us) → Q (.ref p) H'
theorem c_by_wordings (D : Dfn K mg "by_wordings" s_by_wordings) (T : Gs K mg w) (c_spelled : C8.Cal P w K mg base 6 "spelled" (sp_spelled 5) []) : C8.Cal P w K mg base 7 "by_wordings" (sp_by_wordings (w := w)) [] := by
  have sc := sc_by_wordings
  refine mkCal D (fun _ _ _ _ _ _ us hl => match us, hl with | [_], _ => rfl) sc (fun vs H Q E h => by obtain ⟨d, l, rfl, _⟩ := h; rfl) fun cdv A outer s H vs Q E ff hr h => ?_
  obtain ⟨d, l, rfl, hd, h64, hF, h5, q⟩ := h
  have nd : (l.map (·.1)).Nodup := by obtain ⟨_, _, _, _, _, nd, _⟩ := hd; exact nd
  refine ⟨_, (pss_cons (ps_set (i := 1) sc.nd rfl (Or.inr rfl) (pe_dc (own := [("term", 2)]) (g := gName 2) (tt := tYes) rfl sc.nd (pi_td (pv 0)) (blkOk_by (N := N_by_wordings) (sc := defScope s_by_wordings) (by decide +kernel)) (fun _ _ _ _ _ => (pg_name (i := 2) sc.nd rfl (Or.inl rfl))) (fun _ _ _ _ _ => pts_nil) (fun _ _ _ _ _ => (C8.pe_c c_spelled hr (by first | decide | omega) rfl (pa_cons (pv 2) pa_nil))) (fun _ _ _ _ _ => (pv 2)))) (pss_one (ps_ret (pe_lc (own := [("text", 3)]) (g := gName 3) (tt := tYes) rfl sc.nd (pi_list (pe_callB (call_sortedD rfl) rfl T.sorted (by decide +kernel) (pa_cons (pv 1) pa_nil))) (blkOk_by (N := N_by_wordings) (sc := defScope s_by_wordings) (by decide +kernel)) (fun _ _ _ _ _ => (pg_name (i := 3) sc.nd rfl (Or.inl rfl))) (fun _ _ _ _ _ => pts_nil) (fun _ _ _ _ _ => (pe_dget (hu_of hr) (pv 1) (pv 3) (fun _ _ => rfl))))))), ?_⟩
  refine ⟨_, rfl, d, l, rfl, hd, fun es ep e1 e2 D1 hD1 => ?_⟩
  have hne : d ≠ D1 := fun z => by subst z; rw [e1] at hD1; cases hD1
  refine dc_it walk_td (fun i H' => SamX (fun b => b = D1) H H' ∧ Tups H H' ∧ ∃ kvs, H' D1 = some (.dK kvs) ∧ Wd H' (l.map (·.1)) kvs i) ⟨fun b o n e => (upd_ne n).trans e, tups_up (fun xs e => by rw [hD1] at e; cases e), [], upd_same, rfl, fun j kv e => by simp at e⟩ (fun i H' _ p => ⟨p.1 _ _ hne e1, ents_tups p.2.1 e2⟩) (fun i x H1 H2 hi p y => ?_) (fun H1 p => ?_)
  · obtain ⟨rfl, pr, hp, htx⟩ := y
    obtain ⟨k1, tu1, kvs, hk, hw⟩ := p
    have hFt : (l.map (·.1))[i]? = some pr.1 := by rw [List.getElem?_map, hp]; rfl
    have hm := List.mem_of_getElem? hFt
    refine ⟨rfl, _, rfl, x, pr.1, rfl, htx, hF _ hm, h5 _ hm, by have := h5 _ hm; omega, fun H' k => ⟨_, rfl, kvs, Sum.inr (sp pr.1), rfl, k _ _ hk, by have := hw.1; exact lt_line (by omega), ?_, ?_, _, upd_same, ?_⟩⟩
    · exact fun b o n e => (upd_ne n).trans (k _ _ (k1 _ _ n e))
    · exact tu1.trans ((sTups k).trans (tups_up (fun xs e => by rw [k _ _ hk] at e; cases e)))
    · exact ((hw.mono (sTups k)).put hF nd hFt (htx.same k)).mono (tups_up fun xs e => by rw [k _ _ hk] at e; cases e)
  · obtain ⟨k1, tu1, kvs, hk, hw⟩ := p
    have hw : Wd H1 (l.map (·.1)) kvs (l.map (·.1)).length := by rw [List.length_map]; exact hw
    have s1 : Same H H1 := fun b o e => k1 b o (fun z => by subst z; rw [hD1] at e; cases e) e
    refine ⟨_, rfl, D1, kvs, (l.map (·.1)).map sp, rfl, .inl hk, hw.keys, by simp; exact h64, fun ys p1 hperm hsort hp1 => ⟨p1, rfl, ⟨_, SqL.of upd_same⟩, fun L hL => ?_⟩⟩
    obtain ⟨ts, ho, hts⟩ := inOrder_of (N := NameOk) (fun _ h => h) hF hperm hsort
    have hlen : ts.length = l.length := by rw [ho.1.length_eq, List.length_map]
    refine lc_map walk_list (fun i H' v => ∃ t, ts[i]? = some t ∧ TmV H' t v) (by rw [List.length_map, hperm.length_eq]; exact lt_line (by simp; omega)) hL (fun i H2 H3 v tu ⟨t, e3, e4⟩ => ⟨t, e3, e4.mono tu⟩) (fun H2 k => SqL.of (k _ _ upd_same)) (fun i y H2 H3 N' hi k y1 n' => ?_) (fun H2 acc k ha hl hr => ?_)
    · obtain ⟨rfl, hy⟩ := y1
      rw [← hts, List.getElem?_map, List.getElem?_map] at hy
      cases ht : ts[i]? with
      | none => rw [ht] at hy; cases hy
      | some t =>
        rw [ht] at hy
        cases hy
        have hm : t ∈ l.map (·.1) := ho.1.mem_iff.mp (List.mem_of_getElem? ht)
        obtain ⟨v, hv, htv⟩ := hw.get hF nd hm
        have kk : Same H1 H3 := (sUp hp1).trans k
        exact ⟨rfl, _, rfl, _, rfl, D1, v, rfl, by rw [← hv]; exact DGet.k (k := Sum.inr (sp t)) (kk _ _ hk), n' _ _ (Same.refl _) ⟨t, ht, htv.same kk⟩⟩
    · have kk : Same H H2 := s1.trans ((sUp hp1).trans k)
      refine q L H2 ts acc kk ho (paired_of (by rw [hl, List.length_map, hperm.length_eq, hlen]; simp) fun i a b e3 e4 => ?_) ha
      obtain ⟨t, e5, e6⟩ := hr i b e4
      rw [e3] at e5
      cases e5
      exact e6
end
end Kt
/-! The walks: checks. -/
namespace Kt
open PySem PySem.Spec PyProof.Rows L2
open Tm
section
variable {P : Program} {w : World} {K : PySem.W.Frag} {mg : PySem.Str → Option Value} {base : Heap}
abbrev N_law_spelled : List PySem.Str := ["_law_term_here", "_law_words", "_law_part"]
abbrev P_law_spelled : List PySem.Str := ["_law_term_here"]
theorem sc_law_spelled : FnScope N_law_spelled P_law_spelled (defScope s_law_spelled) := ⟨rfl, rfl, rfl, by decide +kernel, rfl, by decide +kernel, by decide +kernel⟩
theorem c_law_spelled (D : Dfn K mg "_law_spelled" s_law_spelled) (T : Gs K mg w) : ∀ n, C8.Cal P w K mg base (n + 1) "_law_spelled" (sp_spelled n) [] := by
  have sc := sc_law_spelled
  intro n
  induction n with
  | zero =>
    refine mkCal D (fun _ _ _ _ _ _ us hl => match us, hl with | [_], _ => rfl) sc (fun vs H Q E h => by obtain ⟨v, t, rfl, _⟩ := h; rfl) fun cdv A outer s H vs Q E f hr h => ?_
    obtain ⟨v, t, rfl, _, _, h0, _⟩ := h
    exact absurd (depth_pos t) (by omega)
  | succ n c_law_spelled =>
    refine mkCal D (fun _ _ _ _ _ _ us hl => match us, hl with | [_], _ => rfl) sc (fun vs H Q E h => by obtain ⟨v, t, rfl, _⟩ := h; rfl) fun cdv A outer s H vs Q E ff hr h => ?_
    obtain ⟨v, t, rfl, ht, hw, hn, h6, q⟩ := h
    refine ⟨_, (pss_cons (ps_if (pt_val (pe_callB (call_isK .str) rfl T.isinstance (by decide +kernel) (pa_cons (pv 0) (pa_cons (pe_kn .str rfl T.str) pa_nil)))) (pss_one (ps_ret (pv 0))) pss_nil) (C8.pss_cut (ps_setLc (i := 1) (own := [("_law_part", 2)]) (g := gName 2) (tt := tYes) rfl sc.nd rfl rfl (sw_true rfl rfl rfl (by decide +kernel)) (pi_tup (pe_slice sl_tup (pv 0) (po_some pe_int) po_no)) (blkOk_by (N := N_law_spelled) (sc := defScope s_law_spelled) (by decide +kernel)) (fun _ _ _ _ _ => (pg_name (i := 2) sc.nd rfl (Or.inl rfl))) (fun _ _ _ _ _ => pts_nil) (fun _ _ _ _ _ => (C8.pe_c c_law_spelled hr (by first | decide | omega) rfl (pa_cons (pv 2) pa_nil)))) (pss_cons (ps_if (pt_cmpR op_eq (pe_ix ix_tup (pv 0) pe_int (fun _ _ => rfl)) pe_str (nomark _)) (pss_one (ps_ret (pe_op op_add_str (pe_op op_add_str (pe_op op_add_str (pe_op op_add_str pe_str (pe_ix ix_list (pv 1) pe_int (fun _ _ => rfl))) pe_str) (pe_ix ix_list (pv 1) pe_int (fun _ _ => rfl))) pe_str))) pss_nil) (pss_cons (ps_if (PW.pt (pw_and (pt_cmpR op_eq (pe_ix ix_tup (pv 0) pe_int (fun _ _ => rfl)) pe_str (nomark _)) (pw_and1 (pt_val (pe_callB (call_isK .str) rfl T.isinstance (by decide +kernel) (pa_cons (pe_ix ix_tup (pv 0) pe_int (fun _ _ => rfl)) (pa_cons (pe_kn .str rfl T.str) pa_nil))))))) (pss_one (ps_ret (pe_op op_add_str (pe_op op_add_str (pe_op op_add_str pe_str (pe_ix ix_list (pv 1) pe_int (fun _ _ => rfl))) pe_str) (pe_ix ix_list (pv 1) pe_int (fun _ _ => rfl))))) pss_nil) (pss_cons (ps_if (pt_cmpR op_eq (pe_ix ix_tup (pv 0) pe_int (fun _ _ => rfl)) pe_str (nomark _)) (pss_one (ps_ret (pe_op op_add_str (pe_op op_add_str (pe_op op_add_str (pe_op op_add_str pe_str (pe_ix ix_list (pv 1) pe_int (fun _ _ => rfl))) pe_str) (pe_ix ix_list (pv 1) pe_int (fun _ _ => rfl))) pe_str))) pss_nil) (pss_cons (ps_if (pt_cmpR op_eq (pe_ix ix_tup (pv 0) pe_int (fun _ _ => rfl)) pe_str (nomark _)) (pss_one (ps_ret (pe_op op_add_str pe_str (pe_ix ix_list (pv 1) pe_int (fun _ _ => rfl))))) pss_nil) (pss_cons (ps_if (pt_cmpR op_eq (pe_ix ix_tup (pv 0) pe_int (fun _ _ => rfl)) pe_str (nomark _)) (pss_one (ps_ret (pe_op op_add_str (pe_op op_add_str (pe_op op_add_str pe_str (pe_ix ix_list (pv 1) pe_int (fun _ _ => rfl))) pe_str) (pe_ix ix_list (pv 1) pe_int (fun _ _ => rfl))))) pss_nil) (pss_cons (ps_if (pt_cmpR op_eq (pe_ix ix_tup (pv 0) pe_int (fun _ _ => rfl)) pe_str (nomark _)) (pss_one (ps_ret (pe_op op_add_str (pe_op op_add_str (pe_op op_add_str (pe_op op_add_str pe_str (pe_ix ix_list (pv 1) pe_int (fun _ _ => rfl))) pe_str) (pe_ix ix_list (pv 1) pe_int (fun _ _ => rfl))) pe_str))) pss_nil) (pss_one (ps_ret (pe_op op_add_str (pe_op op_add_str pe_str (pe_ix ix_list (pv 1) pe_int (fun _ _ => rfl))) pe_str))))))))))), ?_⟩
    cases nn : t.isNm with
    | true =>
      obtain ⟨x, rfl, rfl⟩ := tmNm ht nn
      refine ⟨_, rfl, rfl, _, .str x, _, rfl, iteT ⟨_, rfl, ?_⟩⟩
      have := q H (Same.refl _)
      rw [sp_nm] at this
      exact this
    | false =>
      obtain ⟨p, ks, rfl, hp, hks⟩ := tm_tup ht nn
      have hkl : ks.length = t.kids.length := (Paired.length hks).symm
      have hlen := kids_len nn
      have hvar := no_var nn
      refine ⟨_, rfl, rfl, _, .tup hp, _, rfl, iteF ⟨fun σ' H' => ∃ L, σ' = (L2.start N_law_spelled [.ref p]).set 1 (some (.ref L)) ∧ Same H H' ∧ H' L = some (.lst (t.kids.map fun k => V.str (sp k))), ?_, fun σ' H0 m => ?_⟩⟩
      · refine ⟨_, rfl, _, rfl, ?_⟩
        refine sl1 (K := K) (a := .str t.hd) (ks := ks) (SqT.of hp) fun p' hp' => ?_
        refine ⟨p', rfl, ⟨_, SqT.of upd_same⟩, fun L hL => lc_map walk_tup (fun i H' v => ∃ k, t.kids[i]? = some k ∧ v = .str (sp k)) (lt_line (by omega)) hL (fun _ _ _ _ _ e => e) (fun H1 k => SqT.of (k _ _ upd_same)) (fun i y H1 H2 N' hi k y1 n' => ?_) (fun H1 acc k ha hl hr => ?_)⟩
        · obtain ⟨rfl, hy⟩ := y1
          obtain ⟨kt, hkt⟩ : ∃ kt, t.kids[i]? = some kt := ⟨_, List.getElem?_eq_getElem (by omega)⟩
          have kH : Same H H2 := (sUp hp').trans k
          obtain ⟨y', hy', hty⟩ := paired_at hks hkt
          have e : y' = y := by rw [hy] at hy'; exact (Option.some.inj hy').symm
          subst e
          have hmem : kt ∈ t.kids := List.mem_of_getElem? hkt
          have hdk := kdepth hmem
          exact ⟨rfl, _, rfl, _, kt, rfl, hty.same kH, WF.kid hw hmem, by omega, by omega, fun H' k' => n' _ _ k' ⟨kt, hkt, rfl⟩⟩
        · exact ⟨L, rfl, (sUp hp').trans k, ha.trans (congrArg (fun z => some (HO.lst z)) (accMap (f := fun k => V.str (sp k)) (by omega) hr))⟩
      · obtain ⟨L, rfl, k0, hL⟩ := m
        have hp := k0 _ _ hp
        have q := q _ k0
        have hkid : ∀ k ∈ t.kids, (sp k).length ≤ 416 := fun k hk => sp_len (WF.kid hw hk) (by have := kdepth hk; omega)
        cases t with
        | nm x => cases nn
        | un g a =>
          have la := hkid a (by simp [Tm.kids])
          cases g with
          | half =>
            rw [sp_half] at q
            exact ⟨_, rfl, _, _, _, _, rfl, rfl, SqT.of (hp), at0, rfl, _, rfl, ifF (hdU (by decide +kernel)) ⟨_, rfl, _, _, _, _, rfl, rfl, SqT.of (hp), at0, rfl, _, rfl, ifF (hdU (by decide +kernel)) (iteF ⟨_, rfl, _, _, _, _, rfl, rfl, SqT.of (hp), at0, rfl, _, rfl, ifF (hdU (by decide +kernel)) ⟨_, rfl, _, _, _, _, rfl, rfl, SqT.of (hp), at0, rfl, _, rfl, ifT (hdU (by decide +kernel)) ⟨_, rfl, _, _, _, _, rfl, rfl, SqL.of (hL), at0, _, _, rfl, rfl, add_le (m := 10) (by decide) la (by decide), q⟩⟩⟩)⟩⟩
          | mix =>
            rw [sp_mix] at q
            exact ⟨_, rfl, _, _, _, _, rfl, rfl, SqT.of (hp), at0, rfl, _, rfl, ifF (hdU (by decide +kernel)) ⟨_, rfl, _, _, _, _, rfl, rfl, SqT.of (hp), at0, rfl, _, rfl, ifF (hdU (by decide +kernel)) (iteF ⟨_, rfl, _, _, _, _, rfl, rfl, SqT.of (hp), at0, rfl, _, rfl, ifF (hdU (by decide +kernel)) ⟨_, rfl, _, _, _, _, rfl, rfl, SqT.of (hp), at0, rfl, _, rfl, ifF (hdU (by decide +kernel)) ⟨_, rfl, _, _, _, _, rfl, rfl, SqT.of (hp), at0, rfl, _, rfl, ifF (hdU (by decide +kernel)) ⟨_, rfl, _, _, _, _, rfl, rfl, SqT.of (hp), at0, rfl, _, rfl, ifF (hdU (by decide +kernel)) ⟨_, rfl, _, _, _, _, rfl, rfl, SqL.of (hL), at0, _, _, rfl, rfl, add_le (m := 10) (by decide) la (by decide), _, _, rfl, rfl, add_le (cat_le (m := 10) (by decide) la) (n := 10) (by decide) (by decide), q⟩⟩⟩⟩⟩)⟩⟩
        | bi g a b =>
          have la := hkid a (by simp [Tm.kids])
          have lb := hkid b (by simp [Tm.kids])
          cases g with
          | pair =>
            rw [sp_pair] at q
            exact ⟨_, rfl, _, _, _, _, rfl, rfl, SqT.of (hp), at0, rfl, _, rfl, ifT (hdB (by decide +kernel)) ⟨_, rfl, _, _, _, _, rfl, rfl, SqL.of (hL), at0, _, _, rfl, rfl, add_le (m := 10) (by decide) la (by decide), _, _, rfl, rfl, add_le (cat_le (m := 10) (by decide) la) (n := 10) (by decide) (by decide), _, rfl, _, _, _, _, rfl, rfl, SqL.of (hL), at1, _, _, rfl, rfl, add_le (cat_le (cat_le (m := 10) (by decide) la) (n := 10) (by decide)) lb (by decide), _, _, rfl, rfl, add_le (cat_le (cat_le (cat_le (m := 10) (by decide) la) (n := 10) (by decide)) lb) (n := 10) (by decide) (by decide), q⟩⟩
          | box =>
            obtain ⟨p9, va, vb, e9, hp9, ha9, hb9⟩ := ht.same k0
            cases e9
            cases na : a.isNm with
            | true =>
              obtain ⟨x, rfl, rfl⟩ := tmNm ha9 na
              rw [sp_boxN] at q
              rw [sp_nm] at la
              exact ⟨_, rfl, _, _, _, _, rfl, rfl, SqT.of (hp), at0, rfl, _, rfl, ifF (hdB (by decide +kernel)) ⟨_, rfl, _, _, _, _, rfl, rfl, SqT.of (hp), at0, rfl, _, rfl, ifT (hdB (by decide +kernel)) ⟨_, rfl, _, _, _, _, rfl, rfl, SqT.of (hp9), at1, rfl, _, .str x, _, rfl, iteT ⟨_, rfl, _, _, _, _, rfl, rfl, SqL.of (hL), at1, _, _, rfl, rfl, add_le (m := 10) (by decide) lb (by decide), _, _, rfl, rfl, add_le (cat_le (m := 10) (by decide) lb) (n := 10) (by decide) (by decide), _, rfl, _, _, _, _, rfl, rfl, SqL.of (hL), at0, _, _, rfl, rfl, add_le (cat_le (cat_le (m := 10) (by decide) lb) (n := 10) (by decide)) (by rw [sp_nm]; exact la) (by decide), by rw [sp_nm]; exact q⟩⟩⟩⟩
            | false =>
              rw [sp_boxT2 a b na] at q
              obtain ⟨pa, ksa, rfl, hpa, _⟩ := tm_tup ha9 na
              exact ⟨_, rfl, _, _, _, _, rfl, rfl, SqT.of (hp), at0, rfl, _, rfl, ifF (hdB (by decide +kernel)) ⟨_, rfl, _, _, _, _, rfl, rfl, SqT.of (hp), at0, rfl, _, rfl, ifT (hdB (by decide +kernel)) ⟨_, rfl, _, _, _, _, rfl, rfl, SqT.of (hp9), at1, rfl, _, .tup hpa, _, rfl, iteF ⟨_, rfl, _, _, _, _, rfl, rfl, SqT.of (hp), at0, rfl, _, rfl, ifT (hdB (by decide +kernel)) ⟨_, rfl, _, _, _, _, rfl, rfl, SqL.of (hL), at1, _, _, rfl, rfl, add_le (m := 10) (by decide) lb (by decide), _, _, rfl, rfl, add_le (cat_le (m := 10) (by decide) lb) (n := 10) (by decide) (by decide), _, rfl, _, _, _, _, rfl, rfl, SqL.of (hL), at0, _, _, rfl, rfl, add_le (cat_le (cat_le (m := 10) (by decide) lb) (n := 10) (by decide)) la (by decide), _, _, rfl, rfl, add_le (cat_le (cat_le (cat_le (m := 10) (by decide) lb) (n := 10) (by decide)) la) (n := 10) (by decide) (by decide), q⟩⟩⟩⟩⟩
          | shut =>
            rw [sp_shut] at q
            exact ⟨_, rfl, _, _, _, _, rfl, rfl, SqT.of (hp), at0, rfl, _, rfl, ifF (hdB (by decide +kernel)) ⟨_, rfl, _, _, _, _, rfl, rfl, SqT.of (hp), at0, rfl, _, rfl, ifF (hdB (by decide +kernel)) (iteF ⟨_, rfl, _, _, _, _, rfl, rfl, SqT.of (hp), at0, rfl, _, rfl, ifF (hdB (by decide +kernel)) ⟨_, rfl, _, _, _, _, rfl, rfl, SqT.of (hp), at0, rfl, _, rfl, ifF (hdB (by decide +kernel)) ⟨_, rfl, _, _, _, _, rfl, rfl, SqT.of (hp), at0, rfl, _, rfl, ifT (hdB (by decide +kernel)) ⟨_, rfl, _, _, _, _, rfl, rfl, SqL.of (hL), at1, _, _, rfl, rfl, add_le (m := 10) (by decide) lb (by decide), _, _, rfl, rfl, add_le (cat_le (m := 10) (by decide) lb) (n := 10) (by decide) (by decide), _, rfl, _, _, _, _, rfl, rfl, SqL.of (hL), at0, _, _, rfl, rfl, add_le (cat_le (cat_le (m := 10) (by decide) lb) (n := 10) (by decide)) la (by decide), q⟩⟩⟩⟩)⟩⟩
          | mark =>
            rw [sp_mark] at q
            exact ⟨_, rfl, _, _, _, _, rfl, rfl, SqT.of (hp), at0, rfl, _, rfl, ifF (hdB (by decide +kernel)) ⟨_, rfl, _, _, _, _, rfl, rfl, SqT.of (hp), at0, rfl, _, rfl, ifF (hdB (by decide +kernel)) (iteF ⟨_, rfl, _, _, _, _, rfl, rfl, SqT.of (hp), at0, rfl, _, rfl, ifF (hdB (by decide +kernel)) ⟨_, rfl, _, _, _, _, rfl, rfl, SqT.of (hp), at0, rfl, _, rfl, ifF (hdB (by decide +kernel)) ⟨_, rfl, _, _, _, _, rfl, rfl, SqT.of (hp), at0, rfl, _, rfl, ifF (hdB (by decide +kernel)) ⟨_, rfl, _, _, _, _, rfl, rfl, SqT.of (hp), at0, rfl, _, rfl, ifT (hdB (by decide +kernel)) ⟨_, rfl, _, _, _, _, rfl, rfl, SqL.of (hL), at1, _, _, rfl, rfl, add_le (m := 10) (by decide) lb (by decide), _, _, rfl, rfl, add_le (cat_le (m := 10) (by decide) lb) (n := 10) (by decide) (by decide), _, rfl, _, _, _, _, rfl, rfl, SqL.of (hL), at0, _, _, rfl, rfl, add_le (cat_le (cat_le (m := 10) (by decide) lb) (n := 10) (by decide)) la (by decide), _, _, rfl, rfl, add_le (cat_le (cat_le (cat_le (m := 10) (by decide) lb) (n := 10) (by decide)) la) (n := 10) (by decide) (by decide), q⟩⟩⟩⟩⟩)⟩⟩
abbrev N_law_ascending : List PySem.Str := ["_law_terms", "_law_table", "_law_term_here", "_law_word"]
abbrev P_law_ascending : List PySem.Str := ["_law_terms"]
theorem sc_law_ascending : FnScope N_law_ascending P_law_ascending (defScope s_law_ascending) := ⟨rfl, rfl, rfl, by decide +kernel, rfl, by decide +kernel, by decide +kernel⟩
def sp_law_ascending : Sp := fun vs H Q _ => ∃ a F us, vs = [.ref a] ∧ H a = some (.lst us) ∧ TmVs H F us ∧ F.length < 64 ∧ F.Nodup ∧ All NameOk F ∧ (∀ t ∈ F, t.depth ≤ 5) ∧
  ∀ p H' ts us', Same H H' → InOrder F ts → TmVs H' ts us' → H' p = some (.lst us') → Q (.ref p) H'
theorem c_law_ascending (D : Dfn K mg "_law_ascending" s_law_ascending) (T : Gs K mg w) (c_law_spelled : C8.Cal P w K mg base 6 "_law_spelled" (sp_spelled 5) []) : C8.Cal P w K mg base 7 "_law_ascending" sp_law_ascending [] := by
  have sc := sc_law_ascending
  refine mkCal D (fun _ _ _ _ _ _ us hl => match us, hl with | [_], _ => rfl) sc (fun vs H Q E h => by obtain ⟨a, F, us, rfl, _⟩ := h; rfl) fun cdv A outer s H vs Q E ff hr h => ?_
  obtain ⟨a, F, us, rfl, ha0, hus, h64, nd, hF, h5, q⟩ := h
  have hul : us.length = F.length := (Paired.length hus).symm
  refine ⟨_, (pss_cons (ps_set (i := 1) sc.nd rfl (Or.inr rfl) pe_dnewK) (pss_cons (ps_for PassesOwn.never rfl (pi_list (pv 0)) (pg_name (i := 2) sc.nd rfl (Or.inl rfl)) (pss_one (ps_dput (hu_of hr) (pv 1) (C8.pe_c c_law_spelled hr (by first | decide | omega) rfl (pa_cons (pv 2) pa_nil)) (pv 2) rfl))) (pss_one (ps_ret (pe_lc (own := [("_law_word", 3)]) (g := gName 3) (tt := tYes) rfl sc.nd (pi_list (pe_callB cr_sortedS rfl T.sorted (by decide +kernel) (pa_cons (pe_callTy (call_listD rfl) rfl T.list (by decide +kernel) (pa_cons (pv 1) pa_nil)) pa_nil))) (blkOk_by (N := N_law_ascending) (sc := defScope s_law_ascending) (by decide +kernel)) (fun _ _ _ _ _ => (pg_name (i := 3) sc.nd rfl (Or.inl rfl))) (fun _ _ _ _ _ => pts_nil) (fun _ _ _ _ _ => (pe_dget (hu_of hr) (pv 1) (pv 3) (fun _ _ => rfl)))))))), ?_⟩
  refine fun D1 hD1 => ?_
  have hne : a ≠ D1 := fun z => by subst z; rw [ha0] at hD1; cases hD1
  refine ⟨_, rfl, a, rfl, ⟨_, SqL.of ((upd_ne hne).trans ha0)⟩, for_list (xs := us) (fun i σ' H' => σ'[0]? = some (some (.ref a)) ∧ σ'[1]? = some (some (.ref D1)) ∧ σ'.length = 4 ∧ SamX (fun b => b = D1) H H' ∧ Tups H H' ∧ ∃ kvs, H' D1 = some (.dK kvs) ∧ Wd H' F kvs i)
    ⟨rfl, rfl, rfl, fun b o n e => (upd_ne n).trans e, tups_up (fun xs e => by rw [hD1] at e; cases e), [], upd_same, rfl, fun j kv e => by simp at e⟩ (fun i σ' H' _ p => SqL.of (p.2.2.2.1 _ _ hne ha0)) (fun i x σ' H1 hx p => ?_) (fun σ' H1 p => ?_)⟩
  · obtain ⟨s0, s1, sl, k1, tu1, kvs, hk, hw⟩ := p
    match σ', sl, s0, s1 with
    | [_, _, _, _], _, s0, s1 =>
    cases s0
    cases s1
    obtain ⟨t, ht⟩ : ∃ t, F[i]? = some t := ⟨_, List.getElem?_eq_getElem (by have := (List.getElem?_eq_some_iff.mp hx).1; omega)⟩
    obtain ⟨x', hx', htx⟩ := paired_at hus ht
    have e : x' = x := by rw [hx] at hx'; exact (Option.some.inj hx').symm
    subst e
    have hm := List.mem_of_getElem? ht
    have hi := (List.getElem?_eq_some_iff.mp ht).1
    refine ⟨_, rfl, _, rfl, _, rfl, x', t, rfl, htx.mono tu1, hF _ hm, h5 _ hm, by have := h5 _ hm; omega, fun H' k => ⟨_, _, rfl, DPut.k (k := Sum.inr (sp t)) (k _ _ hk) (by have := hw.1; exact lt_line (by omega)), rfl, rfl, rfl, ?_, ?_, _, upd_same, ?_⟩⟩
    · exact fun b o n e => (upd_ne n).trans (k _ _ (k1 _ _ n e))
    · exact tu1.trans ((sTups k).trans (tups_up (fun xs e => by rw [k _ _ hk] at e; cases e)))
    · exact ((hw.mono (sTups k)).put hF nd ht ((htx.mono tu1).same k)).mono (tups_up (fun xs e => by rw [k _ _ hk] at e; cases e))
  · obtain ⟨s0, s1, sl, k1, tu1, kvs, hk, hw⟩ := p
    match σ', sl, s0, s1 with
    | [_, _, _, _], _, s0, s1 =>
    cases s0
    cases s1
    have hw : Wd H1 F kvs F.length := by rw [← hul]; exact hw
    have s1 : Same H H1 := fun b o e => k1 b o (fun z => by subst z; rw [hD1] at e; cases e) e
    have he : (kvs.map fun kv => kV kv.1) = (F.map sp).map V.str := by
      have := congrArg (List.map kV) hw.keys
      rw [List.map_map, List.map_map, List.map_map] at this
      rw [List.map_map]
      exact this
    refine ⟨_, rfl, D1, kvs, rfl, .inl hk, fun q1 hq1 => ⟨q1, F.map sp, rfl, SqL.of (by rw [upd_same, he]), by simp; exact h64, fun ys p1 hperm hsort hp1 => ⟨p1, rfl, ⟨_, SqL.of upd_same⟩, fun L hL => ?_⟩⟩⟩
    obtain ⟨ts, ho, hts⟩ := inOrder_of (N := NameOk) (fun _ h => h) hF hperm hsort
    have hlen : ts.length = F.length := ho.1.length_eq
    refine lc_map walk_list (fun i H' v => ∃ t, ts[i]? = some t ∧ TmV H' t v) (by rw [List.length_map, hperm.length_eq]; exact lt_line (by simp; omega)) hL (fun i H2 H3 v tu ⟨t, e3, e4⟩ => ⟨t, e3, e4.mono tu⟩) (fun H2 k => SqL.of (k _ _ upd_same)) (fun i y H2 H3 N' hi k y1 n' => ?_) (fun H2 acc k ha hl hr => ?_)
    · obtain ⟨rfl, hy⟩ := y1
      rw [← hts, List.getElem?_map, List.getElem?_map] at hy
      cases ht : ts[i]? with
      | none => rw [ht] at hy; cases hy
      | some t =>
        rw [ht] at hy
        cases hy
        have hm : t ∈ F := ho.1.mem_iff.mp (List.mem_of_getElem? ht)
        obtain ⟨v, hv, htv⟩ := hw.get hF nd hm
        have kk : Same H1 H3 := ((sUp hq1).trans (sUp hp1)).trans k
        exact ⟨rfl, _, rfl, _, rfl, D1, v, rfl, by rw [← hv]; exact DGet.k (k := Sum.inr (sp t)) (kk _ _ hk), n' _ _ (Same.refl _) ⟨t, ht, htv.same kk⟩⟩
    · have kk : Same H H2 := s1.trans (((sUp hq1).trans (sUp hp1)).trans k)
      refine q L H2 ts acc kk ho (paired_of (by rw [hl, List.length_map, hperm.length_eq, hlen]; simp) fun i a b e3 e4 => ?_) ha
      obtain ⟨t, e5, e6⟩ := hr i b e4
      rw [e3] at e5
      cases e5
      exact e6
end
end Kt
/-! The walks: checks. -/
namespace Kt
open PySem PySem.Spec PyProof.Rows L2
open Tm
section
variable {P : Program} {w : World} {K : PySem.W.Frag} {mg : PySem.Str → Option Value} {base : Heap}
/-! ### hearings -/
abbrev N_good_hearing : List PySem.Str := ["hearing", "at", "term"]
abbrev P_good_hearing : List PySem.Str := ["hearing"]
theorem sc_good_hearing : FnScope N_good_hearing P_good_hearing (defScope s_good_hearing) := ⟨rfl, rfl, rfl, by decide +kernel, rfl, by decide +kernel, by decide +kernel⟩
/-- terms as the program takes them -/
def Good (F : List Tm) : Prop := All NameOk F ∧ ∀ t ∈ F, t.depth ≤ 5
def sp_good_hearing : Sp := fun vs H Q _ => ∃ a hs us, vs = [.ref a] ∧ H a = some (.lst us) ∧ TmVs H hs us ∧ hs.length ≤ 40 ∧ Good hs ∧ ∀ p H', Same H H' → H' p = some (.tup us) → Q (.ref p) H'
theorem c_good_hearing (D : Dfn K mg "good_hearing" s_good_hearing) (T : Gs K mg w) (c_is_row : C8.Cal P w K mg base 1 "is_row" sp_is_row []) (c_is_term : C8.Cal P w K mg base 10 "is_term" sp_is_term []) : C8.Cal P w K mg base 11 "good_hearing" sp_good_hearing [] := by
  have sc := sc_good_hearing
  refine mkCal D (fun _ _ _ _ _ _ us hl => match us, hl with | [_], _ => rfl) sc (fun vs H Q E h => by obtain ⟨a, hs, us, rfl, _⟩ := h; rfl) fun cdv A outer s H vs Q E ff hr h => ?_
  obtain ⟨a, hs, us, rfl, ha, hus, h40, hg, q⟩ := h
  have hul : us.length = hs.length := (Paired.length hus).symm
  refine ⟨_, (pss_cons (ps_if (PW.pt (pw_or (pt_not (pt_val (C8.pe_c c_is_row hr (by first | decide | omega) rfl (pa_cons (pv 0) pa_nil)))) (pw_or1 (pt_cmpR op_gt (pe_callB call_len_seq rfl T.len (by decide +kernel) (pa_cons (pv 0) pa_nil)) (C8.pe_gc rfl T.MOST_HEARD) (nomark _))))) (pss_one ps_never) pss_nil) (pss_cons (ps_for PassesOwn.never rfl (pi_enum rfl T.enumerate (pa_cons (pv 0) pa_nil)) (pg_tup rfl (pgs_cons (pg_name (i := 1) sc.nd rfl (Or.inl rfl)) (pgs_cons (pg_name (i := 2) sc.nd rfl (Or.inl rfl)) pgs_nil))) (pss_one (ps_if (pt_not (pt_val (C8.pe_c c_is_term hr (by first | decide | omega) rfl (pa_cons (pv 2) pa_nil)))) (pss_one ps_never) pss_nil))) (pss_one (ps_ret (pe_callTy call_tuple_of rfl T.tuple (by decide +kernel) (pa_cons (pv 0) pa_nil)))))), ?_⟩
  refine ⟨_, rfl, .ref a, .lst, rfl, .lst ha, fun H1 k1 => ⟨_, rfl, iteF ⟨_, rfl, _, _, rfl, .inl (SqL.of (k1 _ _ ha)), _, _, rfl, rfl, _, rfl, ifF (decide_eq_false (by omega)) ?_⟩⟩⟩
  refine ⟨_, rfl, a, us, rfl, SqL.of (k1 _ _ ha), for_it walk_enum (fun i σ' H' => σ'[0]? = some (some (.ref a)) ∧ σ'.length = 3 ∧ Same H H') ⟨rfl, rfl, k1⟩ (fun i σ' H' _ p => SqL.of (p.2.2 _ _ ha)) (fun i x σ' H2 H3 hi p y => ?_) (fun σ' H2 p => ?_)⟩
  · obtain ⟨s0, sl, k⟩ := p
    obtain ⟨TT, x1, x2, rfl, hT, rfl, e1, e2⟩ := y
    match σ', sl, s0 with
    | [_, _, _], _, s0 =>
    cases s0
    cases e1
    obtain ⟨t, ht⟩ : ∃ t, hs[i]? = some t := ⟨_, List.getElem?_eq_getElem (by omega)⟩
    obtain ⟨x', hx', htx⟩ := paired_at hus ht
    have e : x' = x2 := by
      have e2 : us[i]? = some x2 := e2
      rw [e2] at hx'
      exact (Option.some.inj hx').symm
    subst e
    have hm := List.mem_of_getElem? ht
    refine ⟨_, _, rfl, SqT.of upd_same, rfl, _, _, rfl, _, _, rfl, rfl, _, rfl, x', t, rfl, htx.same (k.trans (sUp hT)), hg.1 _ hm, hg.2 _ hm, fun H' k' => ⟨_, rfl, iteF ⟨rfl, rfl, k.trans ((sUp hT).trans k')⟩⟩⟩
  · obtain ⟨s0, sl, k⟩ := p
    match σ', sl, s0 with
    | [_, _, _], _, s0 =>
    cases s0
    exact ⟨_, rfl, a, us, rfl, .inl ⟨SqL.of (k _ _ ha), fun p hp => q p _ (k.trans (sUp hp)) upd_same⟩⟩
/-! ### building -/
abbrev N_pieces : List PySem.Str := ["term"]
abbrev P_pieces : List PySem.Str := ["term"]
theorem sc_pieces : FnScope N_pieces P_pieces (defScope s_pieces) := ⟨rfl, rfl, rfl, by decide +kernel, rfl, by decide +kernel, by decide +kernel⟩
theorem kb_pieces {t : Tm} (nn : t.isNm = false) (h : t.hd ≠ "shut") : pieces t = t.kids := by
  cases t with
  | nm x => cases nn
  | un g a => rfl
  | bi g a b => cases g <;> first | rfl | exact (h rfl).elim
theorem u_shut (g : G1) : g.s ≠ "shut" := by cases g <;> decide +kernel
theorem b_shut (g : G2) : g.s = "shut" → g = .shut := by cases g <;> decide +kernel
def sp_pieces : Sp := fun vs H Q _ => ∃ v t, vs = [v] ∧ TmV H t v ∧ t.isNm = false ∧ ∀ p H' ks, Same H H' → H' p = some (.tup ks) → TmVs H' (pieces t) ks → Q (.ref p) H'
theorem c_pieces (D : Dfn K mg "pieces" s_pieces) (T : Gs K mg w) : C8.Cal P w K mg base 1 "pieces" sp_pieces [] := by
  have sc := sc_pieces
  refine mkCal D (fun _ _ _ _ _ _ us hl => match us, hl with | [_], _ => rfl) sc (fun vs H Q E h => by obtain ⟨v, t, rfl, _⟩ := h; rfl) fun cdv A outer s H vs Q E ff hr h => ?_
  obtain ⟨v, t, rfl, ht, nn, q⟩ := h
  refine ⟨_, (pss_cons (ps_if (pt_cmpR op_eq (pe_ix ix_tup (pv 0) pe_int (fun _ _ => rfl)) (C8.pe_gc rfl T.SHUT) (nomark _)) (pss_one (ps_ret (pe_tup (pa_cons (pe_tup (pa_cons (C8.pe_gc rfl T.HALF) (pa_cons (pe_ix ix_tup (pv 0) pe_int (fun _ _ => rfl)) pa_nil))) (pa_cons (pe_ix ix_tup (pv 0) pe_int (fun _ _ => rfl)) pa_nil))))) pss_nil) (pss_one (ps_ret (pe_slice sl_tup (pv 0) (po_some pe_int) po_no)))), ?_⟩
  have ht0 := ht
  obtain ⟨p, ks, rfl, hp, hks⟩ := tm_tup ht nn
  by_cases hsh : t.hd = "shut"
  · have : ∃ a b, t = .bi .shut a b := by
      cases t with
      | nm x => cases nn
      | un g a => exact absurd hsh (u_shut g)
      | bi g a b => exact ⟨a, b, by rw [b_shut g hsh]⟩
    obtain ⟨a, b, rfl⟩ := this
    obtain ⟨p', va, vb, e, hp', ha, hb⟩ := ht0
    cases e
    refine ⟨_, rfl, _, _, _, _, rfl, rfl, SqT.of (hp'), at0, rfl, _, rfl, ifT (eqS (by decide +kernel)) ⟨_, rfl, _, _, _, _, rfl, rfl, SqT.of (hp'), at1, by show 2 ≤ sizeLine; decide, fun p1 hp1 => ⟨_, rfl, _, _, _, _, rfl, rfl, SqT.of (sUp hp1 _ _ hp'), at2, by show 2 ≤ sizeLine; decide, fun p2 hp2 => q p2 _ _ ((sUp hp1).trans (sUp hp2)) upd_same (.cons ⟨p1, va, rfl, sUp hp2 _ _ upd_same, ha.same ((sUp hp1).trans (sUp hp2))⟩ (.cons (hb.same ((sUp hp1).trans (sUp hp2))) .nil))⟩⟩⟩
  · refine ⟨_, rfl, _, _, _, _, rfl, rfl, SqT.of (hp), at0, rfl, _, rfl, ifF (decide_eq_false fun e => hsh (V.str.inj e)) ⟨_, rfl, _, rfl, ?_⟩⟩
    refine sl1 (K := K) (a := .str t.hd) (ks := ks) (SqT.of hp) fun p' hp' => q p' _ ks (sUp hp') upd_same ?_
    rw [kb_pieces nn hsh]
    exact TmVs.same (sUp hp') hks
abbrev N_is_built : List PySem.Str := ["found", "term", "piece"]
abbrev P_is_built : List PySem.Str := ["found", "term"]
theorem sc_is_built : FnScope N_is_built P_is_built (defScope s_is_built) := ⟨rfl, rfl, rfl, by decide +kernel, rfl, by decide +kernel, by decide +kernel⟩
def rk : Tm → Nat
  | .nm _ => 1
  | .un _ a => rk a + 1
  | .bi .shut a b => max (rk a + 1) (rk b) + 1
  | .bi _ a b => max (rk a) (rk b) + 1
theorem rk_pos : ∀ t : Tm, 1 ≤ rk t
  | .nm _ => Nat.le_refl _
  | .un _ a => Nat.le_add_left _ _
  | .bi .shut _ _ => Nat.le_add_left _ _
  | .bi .pair _ _ => Nat.le_add_left _ _
  | .bi .box _ _ => Nat.le_add_left _ _
  | .bi .mark _ _ => Nat.le_add_left _ _
theorem rk_piece {t k : Tm} (h : k ∈ pieces t) : rk k + 1 ≤ rk t := by
  cases t with
  | nm x => cases h
  | un g a =>
    have e : k = a := by simpa [pieces] using h
    subst e
    exact Nat.le_refl _
  | bi g a b =>
    cases g with
    | shut =>
      have e : k = .un .half a ∨ k = b := by simpa [pieces] using h
      rcases e with e | e <;> subst e <;> simp only [rk] <;> omega
    | pair =>
      have e : k = a ∨ k = b := by simpa [pieces] using h
      rcases e with e | e <;> subst e <;> simp only [rk] <;> omega
    | box =>
      have e : k = a ∨ k = b := by simpa [pieces] using h
      rcases e with e | e <;> subst e <;> simp only [rk] <;> omega
    | mark =>
      have e : k = a ∨ k = b := by simpa [pieces] using h
      rcases e with e | e <;> subst e <;> simp only [rk] <;> omega
theorem rk_le {N : PySem.Str → Prop} : ∀ {t : Tm}, WF N t → rk t ≤ t.depth + 1
  | .nm _, _ => Nat.le_add_left _ _
  | .un g a, hw => by
    have := rk_le (WF.kid hw (show a ∈ (Tm.un g a).kids by simp [Tm.kids]))
    simp only [rk, Tm.depth]; omega
  | .bi .shut a b, hw => by
    have h2 := rk_le (WF.kid hw (show b ∈ (Tm.bi .shut a b).kids by simp [Tm.kids]))
    obtain ⟨⟨x, rfl, _⟩, _⟩ := hw
    simp only [rk, Tm.depth] at h2 ⊢; omega
  | .bi .pair a b, hw => by
    have h1 := rk_le (WF.kid hw (show a ∈ (Tm.bi .pair a b).kids by simp [Tm.kids]))
    have h2 := rk_le (WF.kid hw (show b ∈ (Tm.bi .pair a b).kids by simp [Tm.kids]))
    simp only [rk, Tm.depth]; omega
  | .bi .box a b, hw => by
    have h1 := rk_le (WF.kid hw (show a ∈ (Tm.bi .box a b).kids by simp [Tm.kids]))
    have h2 := rk_le (WF.kid hw (show b ∈ (Tm.bi .box a b).kids by simp [Tm.kids]))
    simp only [rk, Tm.depth]; omega
  | .bi .mark a b, hw => by
    have h1 := rk_le (WF.kid hw (show a ∈ (Tm.bi .mark a b).kids by simp [Tm.kids]))
    have h2 := rk_le (WF.kid hw (show b ∈ (Tm.bi .mark a b).kids by simp [Tm.kids]))
    simp only [rk, Tm.depth]; omega
theorem piece_ok {N : PySem.Str → Prop} {t k : Tm} (hw : WF N t) (h : k ∈ pieces t) : WF N k ∧ k.depth ≤ t.depth := by
  by_cases hk : k ∈ t.kids
  · exact ⟨WF.kid hw hk, by have := kdepth hk; omega⟩
  · cases t with
    | nm x => cases h
    | un g a => exact (hk h).elim
    | bi g a b =>
      cases g with
      | shut =>
        have e : k = .un .half a ∨ k = b := by simpa [pieces] using h
        rcases e with e | e
        · subst e
          have hb := depth_pos b
          obtain ⟨⟨x, rfl, hx⟩, _⟩ := hw
          exact ⟨⟨x, rfl, hx⟩, by simp only [Tm.depth]; omega⟩
        · subst e; exact (hk (by simp [Tm.kids])).elim
      | pair => exact (hk h).elim
      | box => exact (hk h).elim
      | mark => exact (hk h).elim
def sp_is_built (n : Nat) : Sp := fun vs H Q _ => ∃ d l v t, vs = [.ref d, v] ∧ TD w H d l ∧ TmV H t v ∧ WF NameOk t ∧ t.depth ≤ 6 ∧ rk t ≤ n ∧ ∀ H', Same H H' → Q (.bl (built (l.map (·.1)) t)) H'
theorem all_map {α : Type} (f : α → Bool) (l : List α) : (l.map f).all id = l.all f := by rw [List.all_map]; rfl
theorem c_is_built (D : Dfn K mg "is_built" s_is_built) (T : Gs K mg w) (c_pieces : C8.Cal P w K mg base 1 "pieces" sp_pieces []) : ∀ n, C8.Cal P w K mg base (n + 2) "is_built" (sp_is_built (w := w) n) [] := by
  have sc := sc_is_built
  intro n
  induction n with
  | zero =>
    refine mkCal D (fun _ _ _ _ _ _ us hl => match us, hl with | [_, _], _ => rfl) sc (fun vs H Q E h => by obtain ⟨d, l, v, t, rfl, _⟩ := h; rfl) fun cdv A outer s H vs Q E f hr h => ?_
    obtain ⟨d, l, v, t, rfl, _, _, _, _, h0, _⟩ := h
    exact absurd (rk_pos t) (by omega)
  | succ n c_is_built =>
    refine mkCal D (fun _ _ _ _ _ _ us hl => match us, hl with | [_, _], _ => rfl) sc (fun vs H Q E h => by obtain ⟨d, l, v, t, rfl, _⟩ := h; rfl) fun cdv A outer s H vs Q E ff hr h => ?_
    obtain ⟨d, l, v, t, rfl, hd, ht, hw, h6, hn, q⟩ := h
    refine ⟨_, (pss_cons (ps_if (pt_cmpR (op_inTd hr.units) (pv 1) (pv 0) rfl) (pss_one (ps_ret pe_bl)) pss_nil) (pss_one (ps_ret (pe_and (pe_not (pe_callB (call_isK .str) rfl T.isinstance (by decide +kernel) (pa_cons (pv 1) (pa_cons (pe_kn .str rfl T.str) pa_nil)))) (pe_one (pe_callB (cr_all rfl) rfl T.all (by decide +kernel) (pa_cons (pe_lc (own := [("piece", 2)]) (g := gName 2) (tt := tYes) rfl sc.nd (pi_tup (C8.pe_c c_pieces hr (by first | decide | omega) rfl (pa_cons (pv 1) pa_nil))) (blkOk_by (N := N_is_built) (sc := defScope s_is_built) (by decide +kernel)) (fun _ _ _ _ _ => (pg_name (i := 2) sc.nd rfl (Or.inl rfl))) (fun _ _ _ _ _ => pts_nil) (fun _ _ _ _ _ => (C8.pe_c c_is_built hr (by first | decide | omega) rfl (pa_cons (pv 0) (pa_cons (pv 2) pa_nil))))) pa_nil))))))), ?_⟩
    refine ⟨_, rfl, _, rfl, d, l, t, rfl, hd, ht, by omega, _, rfl, ?_⟩
    rw [built_eq] at q
    by_cases hm : t ∈ l.map (·.1)
    · rw [decide_eq_true hm] at q
      exact ifT (decide_eq_true hm) (q H (Same.refl _))
    · rw [decide_eq_false hm, Bool.false_or] at q
      refine ifF (decide_eq_false hm) ?_
      cases nn : t.isNm with
      | true =>
        rw [nn] at q
        exact ⟨_, rfl, rfl, _, kdT ht nn, _, rfl, _, rfl, iteF (q H (Same.refl _))⟩
      | false =>
        rw [nn, Bool.not_false, Bool.true_and] at q
        refine ⟨_, rfl, rfl, _, kdF ht nn, _, rfl, _, rfl, iteT ⟨_, rfl, v, t, rfl, ht, nn, fun p H1 ks k1 hp hks => ⟨p, rfl, ⟨_, SqT.of hp⟩, fun L hL => ?_⟩⟩⟩
        have hkl : ks.length = (pieces t).length := (Paired.length hks).symm
        have h2 : (pieces t).length ≤ 2 := by
          cases t with
          | nm x => cases nn
          | un g a => exact Nat.le_succ _
          | bi g a b => cases g <;> exact Nat.le_refl _
        refine lc_map walk_tup (fun i H' v => ∃ k, (pieces t)[i]? = some k ∧ v = .bl (built (l.map (·.1)) k)) (lt_line (by omega)) hL (fun _ _ _ _ _ e => e) (fun H2 k => SqT.of (k _ _ hp)) (fun i y H2 H3 N' hi k y1 n' => ?_) (fun H2 acc k ha hl hr' => ?_)
        · obtain ⟨rfl, hy⟩ := y1
          obtain ⟨kt, hkt⟩ : ∃ kt, (pieces t)[i]? = some kt := ⟨_, List.getElem?_eq_getElem (by omega)⟩
          obtain ⟨y', hy', hty⟩ := paired_at hks hkt
          have e : y' = y := by rw [hy] at hy'; exact (Option.some.inj hy').symm
          subst e
          have hmem := List.mem_of_getElem? hkt
          have hpo := piece_ok hw hmem
          have hrk := rk_piece hmem
          exact ⟨rfl, _, rfl, _, rfl, d, l, y', kt, rfl, hd.same (k1.trans k), hty.same k, hpo.1, by omega, by omega, fun H' k' => n' _ _ k' ⟨kt, hkt, rfl⟩⟩
        · have e1 : acc = ((pieces t).map (built (l.map (·.1)))).map V.bl := by
            rw [List.map_map]
            exact accMap (f := fun k => V.bl (built (l.map (·.1)) k)) (by omega) hr'
          refine ⟨_, _, rfl, SqL.of (ha.trans (congrArg (fun z => some (HO.lst z)) e1)), ?_⟩
          rw [all_map]
          exact q _ (k1.trans k)
end
end Kt
/-! The walks: checks. -/
namespace Kt
open PySem PySem.Spec PyProof.Rows L2
open Tm
section
variable {P : Program} {w : World} {K : PySem.W.Frag} {mg : PySem.Str → Option Value} {base : Heap}
/-! ### opening -/
abbrev N_openings : List PySem.Str := ["found", "term"]
abbrev P_openings : List PySem.Str := ["found", "term"]
theorem sc_openings : FnScope N_openings P_openings (defScope s_openings) := ⟨rfl, rfl, rfl, by decide +kernel, rfl, by decide +kernel, by decide +kernel⟩
theorem inV_bs {t : Tm} (nn : t.isNm = false) : inV (.str t.hd) [.str "box", .str "shut"] = decide (t.hd = "box" ∨ t.hd = "shut") := by
  have h1 : ∀ g : G1, inV (.str g.s) [.str "box", .str "shut"] = decide (g.s = "box" ∨ g.s = "shut") := by intro g; cases g <;> decide +kernel
  have h2 : ∀ g : G2, inV (.str g.s) [.str "box", .str "shut"] = decide (g.s = "box" ∨ g.s = "shut") := by intro g; cases g <;> decide +kernel
  cases t with
  | nm x => cases nn
  | un g a => exact h1 g
  | bi g a b => exact h2 g
def sp_openings : Sp := fun vs H Q _ => ∃ d l v t, vs = [.ref d, v] ∧ TD w H d l ∧ TmV H t v ∧ WF NameOk t ∧ t.depth ≤ 6 ∧ ∀ p H' us, Same H H' → H' p = some (.lst us) → H p = none → TmVs H' (openings (l.map (·.1)) t) us → Q (.ref p) H'
theorem c_openings (D : Dfn K mg "openings" s_openings) (T : Gs K mg w) (c_is_built : C8.Cal P w K mg base 9 "is_built" (sp_is_built (w := w) 7) []) : C8.Cal P w K mg base 10 "openings" (sp_openings (w := w)) [] := by
  have sc := sc_openings
  refine mkCal D (fun _ _ _ _ _ _ us hl => match us, hl with | [_, _], _ => rfl) sc (fun vs H Q E h => by obtain ⟨d, l, v, t, rfl, _⟩ := h; rfl) fun cdv A outer s H vs Q E ff hr h => ?_
  obtain ⟨d, l, v, t, rfl, hd, ht, hw, h6, q⟩ := h
  refine ⟨_, (pss_cons (ps_if (pt_val (pe_callB (call_isK .str) rfl T.isinstance (by decide +kernel) (pa_cons (pv 1) (pa_cons (pe_kn .str rfl T.str) pa_nil)))) (pss_one (ps_ret (pe_lst pa_nil))) pss_nil) (pss_cons (ps_if (pt_cmpR op_eq (pe_ix ix_tup (pv 1) pe_int (fun _ _ => rfl)) (C8.pe_gc rfl T.PAIR) (nomark _)) (pss_one (ps_ret (pe_lst (pa_cons (pe_ix ix_tup (pv 1) pe_int (fun _ _ => rfl)) (pa_cons (pe_ix ix_tup (pv 1) pe_int (fun _ _ => rfl)) pa_nil))))) pss_nil) (pss_cons (ps_if (pt_cmpR op_eq (pe_ix ix_tup (pv 1) pe_int (fun _ _ => rfl)) (C8.pe_gc rfl T.MARK) (nomark _)) (pss_one (ps_ret (pe_lst (pa_cons (pe_ix ix_tup (pv 1) pe_int (fun _ _ => rfl)) pa_nil)))) pss_nil) (pss_cons (ps_if (PW.pt (pw_and (pt_cmpR op_in_seq (pe_ix ix_tup (pv 1) pe_int (fun _ _ => rfl)) (pe_tup (pa_cons (C8.pe_gc rfl T.BOX) (pa_cons (C8.pe_gc rfl T.SHUT) pa_nil))) rfl) (pw_and1 (pt_val (C8.pe_c c_is_built hr (by first | decide | omega) rfl (pa_cons (pv 0) (pa_cons (pe_ix ix_tup (pv 1) pe_int (fun _ _ => rfl)) pa_nil))))))) (pss_one (ps_ret (pe_lst (pa_cons (pe_ix ix_tup (pv 1) pe_int (fun _ _ => rfl)) pa_nil)))) pss_nil) (pss_one (ps_ret (pe_lst pa_nil))))))), ?_⟩
  cases t with
  | nm x =>
    have e : v = .str x := ht
    subst e
    exact ⟨_, rfl, rfl, _, .str x, _, rfl, iteT ⟨by show 0 ≤ sizeLine; decide, fun p hp => q p _ [] (sUp hp) upd_same hp .nil⟩⟩
  | un g a =>
    obtain ⟨p, va, rfl, hp, ha⟩ := ht
    have e1 : decide (V.str g.s = V.str "pair") = false := by cases g <;> exact eqS (by decide +kernel)
    have e2 : decide (V.str g.s = V.str "mark") = false := by cases g <;> exact eqS (by decide +kernel)
    have e3 : inV (.str g.s) [.str "box", .str "shut"] = false := by cases g <;> decide +kernel
    refine ⟨_, rfl, rfl, _, .tup hp, _, rfl, iteF ⟨_, rfl, _, _, _, _, rfl, rfl, SqT.of (hp), at0, rfl, _, rfl, ifF e1 ⟨_, rfl, _, _, _, _, rfl, rfl, SqT.of (hp), at0, rfl, _, rfl, ifF e2 ⟨_, rfl, _, _, _, _, rfl, rfl, SqT.of (hp), at0, by show 2 ≤ sizeLine; decide, fun p1 hp1 => ⟨p1, _, rfl, .inr (SqT.of upd_same), rfl, rfl, _, rfl, ifF e3 (iteF ⟨by show 0 ≤ sizeLine; decide, fun p2 hp2 => q p2 _ [] ((sUp hp1).trans (sUp hp2)) upd_same (Same.free (sUp hp1) hp2) .nil⟩)⟩⟩⟩⟩⟩
  | bi g a b =>
    obtain ⟨p, va, vb, rfl, hp, ha, hb⟩ := ht
    have wa : WF NameOk a := WF.kid hw (by simp [Tm.kids])
    have hda := kdepth (show a ∈ (Tm.bi g a b).kids by simp [Tm.kids])
    have hra := rk_le wa
    refine ⟨_, rfl, rfl, _, .tup hp, _, rfl, iteF ?_⟩
    by_cases hpair : g = .pair
    · subst hpair
      refine ⟨_, rfl, _, _, _, _, rfl, rfl, SqT.of (hp), at0, rfl, _, rfl, ifT (eqS (by decide +kernel)) ⟨_, rfl, _, _, _, _, rfl, rfl, SqT.of (hp), at1, _, rfl, _, _, _, _, rfl, rfl, SqT.of (hp), at2, by show 2 ≤ sizeLine; decide, fun p1 hp1 => q p1 _ [va, vb] (sUp hp1) upd_same hp1 (.cons (ha.same (sUp hp1)) (.cons (hb.same (sUp hp1)) .nil))⟩⟩
    by_cases hmark : g = .mark
    · subst hmark
      refine ⟨_, rfl, _, _, _, _, rfl, rfl, SqT.of (hp), at0, rfl, _, rfl, ifF (eqS (by decide +kernel)) ⟨_, rfl, _, _, _, _, rfl, rfl, SqT.of (hp), at0, rfl, _, rfl, ifT (eqS (by decide +kernel)) ⟨_, rfl, _, _, _, _, rfl, rfl, SqT.of (hp), at2, by show 1 ≤ sizeLine; decide, fun p1 hp1 => q p1 _ [vb] (sUp hp1) upd_same hp1 (.cons (hb.same (sUp hp1)) .nil)⟩⟩⟩
    have e1 : decide (V.str g.s = V.str "pair") = false := by cases g <;> first | exact (hpair rfl).elim | exact eqS (by decide +kernel)
    have e2 : decide (V.str g.s = V.str "mark") = false := by cases g <;> first | exact (hmark rfl).elim | exact eqS (by decide +kernel)
    have e3 : inV (.str g.s) [.str "box", .str "shut"] = true := by cases g <;> first | exact (hpair rfl).elim | exact (hmark rfl).elim | decide +kernel
    have e4 : openings (l.map (·.1)) (.bi g a b) = if built (l.map (·.1)) a = true then [b] else [] := by cases g <;> first | exact (hpair rfl).elim | exact (hmark rfl).elim | rfl
    rw [e4] at q
    refine ⟨_, rfl, _, _, _, _, rfl, rfl, SqT.of (hp), at0, rfl, _, rfl, ifF e1 ⟨_, rfl, _, _, _, _, rfl, rfl, SqT.of (hp), at0, rfl, _, rfl, ifF e2 ⟨_, rfl, _, _, _, _, rfl, rfl, SqT.of (hp), at0, by show 2 ≤ sizeLine; decide, fun p1 hp1 => ⟨p1, _, rfl, .inr (SqT.of upd_same), rfl, rfl, _, rfl, ifT e3 ⟨_, rfl, _, rfl, _, _, _, _, rfl, rfl, SqT.of (sUp hp1 _ _ hp), at1, d, l, va, a, rfl, hd.same (sUp hp1), ha.same (sUp hp1), wa, by omega, by omega, fun H2 k2 => ⟨_, rfl, ?_⟩⟩⟩⟩⟩⟩
    have k := (sUp hp1).trans k2
    cases hb' : built (l.map (·.1)) a with
    | true =>
      rw [hb', if_pos rfl] at q
      exact iteT ⟨_, rfl, _, _, _, _, rfl, rfl, SqT.of (k _ _ hp), at2, by show 1 ≤ sizeLine; decide, fun p3 hp3 => q p3 _ [vb] (k.trans (sUp hp3)) upd_same (Same.free k hp3) (.cons (hb.same (k.trans (sUp hp3))) .nil)⟩
    | false =>
      rw [hb', if_neg Bool.false_ne_true] at q
      exact iteF ⟨by show 0 ≤ sizeLine; decide, fun p3 hp3 => q p3 _ [] (k.trans (sUp hp3)) upd_same (Same.free k hp3) .nil⟩
theorem nodup_len {α : Type} [DecidableEq α] : ∀ {l U : List α}, l.Nodup → (∀ x ∈ l, x ∈ U) → l.length ≤ U.length
  | [], _, _, _ => Nat.zero_le _
  | a :: l, U, h, hs => by
    rw [List.nodup_cons] at h
    have ha : a ∈ U := hs a (by simp)
    have := nodup_len (l := l) (U := U.erase a) h.2 fun x hx => (List.mem_erase_of_ne (show x ≠ a from fun e => h.1 (e ▸ hx))).mpr (hs x (List.mem_cons_of_mem _ hx))
    rw [List.length_erase_of_mem ha] at this
    have hp : 0 < U.length := List.length_pos_of_mem ha
    simp; omega
/-- few terms in all -/
def UB (hs : List Tm) : Prop := ∃ U : List Tm, U.length < 64 ∧ KidsIn U ∧ Good U ∧ ∀ x ∈ hs, x ∈ U
theorem take_foldl {α β : Type} {f : β → α → β} {l : List α} {i : Nat} {x : α} {a : β} (h : l[i]? = some x) : (l.take (i + 1)).foldl f a = f ((l.take i).foldl f a) x := by
  rw [List.take_succ, h, List.foldl_append]
  rfl
theorem take_mem {α : Type} {l : List α} {i : Nat} {x : α} (h : x ∈ l.take i) : x ∈ l := List.mem_of_mem_take h
theorem TD.nodup {H : Hp} {d : Addr} {l : List (Tm × V)} (h : TD w H d l) : (l.map (·.1)).Nodup := by
  obtain ⟨_, _, _, _, _, nd, _⟩ := h
  exact nd
theorem TD.notup {H : Hp} {d : Addr} {l : List (Tm × V)} (h : TD w H d l) : ∀ xs, H d ≠ Option.some (HO.tup xs) := fun xs e => by
  obtain ⟨_, _, e1, _⟩ := h
  rw [e1] at e
  cases e
theorem TD.nolst {H : Hp} {d : Addr} {l : List (Tm × V)} (h : TD w H d l) {xs : List V} : H d ≠ Option.some (HO.lst xs) := fun e => by
  obtain ⟨_, _, e1, _⟩ := h
  rw [e1] at e
  cases e
theorem putTd_sam {H H' : Hp} {d : Addr} {l : List (Tm × V)} {t : Tm} {v : V} (h : PutTd w H d l t v H') : SamX (fun b => b = d) H H' := by
  obtain ⟨_, o, rfl, _⟩ := h
  exact fun b u n e => (upd_ne n).trans e
theorem putTd_keys {H H' : Hp} {d : Addr} {l : List (Tm × V)} {t : Tm} {v : V} (h : PutTd w H d l t v H') : TD w H' d (putK l t v) ∧ (putK l t v).map (·.1) = ins (l.map (·.1)) t := ⟨h.1, keys_putK⟩
theorem same_new {H H' : Hp} {d : Addr} (h : SamX (fun b => b = d) H H') (hd : H d = none) : Same H H' := fun b o e => h b o (fun z => by subst z; rw [hd] at e; cases e) e
theorem len_U {U F : List Tm} (hU : U.length < 64) (hF : ∀ x ∈ F, x ∈ U) (nd : F.Nodup) : F.length ≤ 63 := by
  have := nodup_len nd hF
  omega
end
end Kt
/-! The walks: checks. -/
namespace Kt
open PySem PySem.Spec PyProof.Rows L2
open Tm
section
variable {P : Program} {w : World} {K : PySem.W.Frag} {mg : PySem.Str → Option Value} {base : Heap}
/-! ### the least closed set -/
abbrev N_least_closed : List PySem.Str := ["hearing", "found", "many", "term", "inner"]
abbrev P_least_closed : List PySem.Str := ["hearing"]
theorem sc_least_closed : FnScope N_least_closed P_least_closed (defScope s_least_closed) := ⟨rfl, rfl, rfl, by decide +kernel, rfl, by decide +kernel, by decide +kernel⟩
def sp_least_closed : Sp := fun vs H Q _ => ∃ p hs us, vs = [.ref p] ∧ H p = some (.tup us) ∧ TmVs H hs us ∧ UB hs ∧ hs.length ≤ 1000 ∧ ∀ d l H', Same H H' → TD w H' d l → IsClo (start0 hs) (l.map (·.1)) → Q (.ref d) H'
def muI (i : Int) : Nat := (64 - i).toNat
def muL (σ : L2.St) : Nat := match σ[2]? with
  | some (some (V.int i)) => muI i
  | _ => 0
theorem c_least_closed (D : Dfn K mg "least_closed" s_least_closed) (T : Gs K mg w) (c_openings : C8.Cal P w K mg base 10 "openings" (sp_openings (w := w)) []) : C8.Cal P w K mg base 11 "least_closed" (sp_least_closed (w := w)) [] := by
  have sc := sc_least_closed
  refine mkCal D (fun _ _ _ _ _ _ us hl => match us, hl with | [_], _ => rfl) sc (fun vs H Q E h => by obtain ⟨p, hs, us, rfl, _⟩ := h; rfl) fun cdv A outer s H vs Q E ff hr h => ?_
  obtain ⟨p, hs, us, rfl, hp, hus, ⟨U, hU, hK, hG, hsU⟩, h1000, q⟩ := h
  have hul : us.length = hs.length := (Paired.length hus).symm
  refine ⟨_, (pss_cons (ps_setDcT (i := 1) (own := [("term", 3)]) (g := gName 3) (tt := tYes) hr.units rfl sc.nd rfl rfl (sw_trueD rfl rfl rfl (by decide +kernel)) (pi_tup (pv 0)) (blkOk_by (N := N_least_closed) (sc := defScope s_least_closed) (by decide +kernel)) (fun _ _ _ _ _ => (pg_name (i := 3) sc.nd rfl (Or.inl rfl))) (fun _ _ _ _ _ => pts_nil) (fun _ _ _ _ _ => (pv 3)) (fun _ _ _ _ _ => pe_bl)) (pss_cons (ps_set (i := 2) sc.nd rfl (Or.inl rfl) (pe_un un_neg pe_int)) (pss_cons (ps_while PassesOwn.never (pt_cmpR op_ne (pv 2) (pe_callB call_lenTd rfl T.len (by decide +kernel) (pa_cons (pv 1) pa_nil)) (nomark _)) (pss_cons (ps_set (i := 2) sc.nd rfl (Or.inl rfl) (pe_callB call_lenTd rfl T.len (by decide +kernel) (pa_cons (pv 1) pa_nil))) (pss_one (ps_for PassesOwn.never rfl (pi_list (pe_callTy (call_listTd rfl) rfl T.list (by decide +kernel) (pa_cons (pv 1) pa_nil))) (pg_name (i := 3) sc.nd rfl (Or.inl rfl)) (pss_one (ps_for PassesOwn.never rfl (pi_list (C8.pe_c c_openings hr (by first | decide | omega) rfl (pa_cons (pv 1) (pa_cons (pv 3) pa_nil)))) (pg_name (i := 4) sc.nd rfl (Or.inl rfl)) (pss_one (ps_asg pe_bl (pg_sub (pv 1) (pv 4) (set_td hr.units)))))))))) (pss_one (ps_ret (pv 1)))))), ?_⟩
  refine ⟨_, rfl, p, rfl, ⟨_, SqT.of hp⟩, fun D1 hD1 hempty => ?_⟩
  have hpD : p ≠ D1 := fun z => by subst z; rw [hp] at hD1; cases hD1
  refine dcT_seq (n := us.length) (fun i H' => SamX (fun b => b = D1) H H' ∧ ∃ l, TD w H' D1 l ∧ l.map (·.1) = (hs.take i).foldl ins []) ⟨fun b o n e => (upd_ne n).trans e, [], hempty w, rfl⟩ (fun i H' hi p' => ⟨fun lt => walk_tup.goes i H' lt (SqT.of (p'.1 _ _ hpD hp)), fun ge => by
    have e : i = us.length := by omega
    subst e
    exact walk_tup.stops H' (SqT.of (p'.1 _ _ hpD hp))⟩) (fun i x H1 H2 hi p' y => ?_) (fun H1 p' => ?_)
  · obtain ⟨rfl, hy⟩ := y
    obtain ⟨k, l, hd, hl⟩ := p'
    have hy : us[i]? = some x := hy us (SqT.of (k _ _ hpD hp))
    obtain ⟨t, ht⟩ : ∃ t, hs[i]? = some t := ⟨_, List.getElem?_eq_getElem (by omega)⟩
    obtain ⟨x', hx', htx⟩ := paired_at hus ht
    have e : x' = x := by rw [hy] at hx'; exact (Option.some.inj hx').symm
    subst e
    have hm := List.mem_of_getElem? ht
    have hlU : ∀ z ∈ l.map (·.1), z ∈ U := fun z hz => by
      rw [hl, foldl_ins_mem] at hz
      exact hsU z (take_mem (hz.elim (fun q => by cases q) id))
    refine ⟨rfl, _, rfl, l, t, hd, ?_, htx.same (same_new k hD1), by have := hG.2 t (hsU t hm); omega, fun H6 hput => ⟨k.trans (putTd_sam hput), _, (putTd_keys hput).1, ?_⟩⟩
    · have := len_U hU hlU hd.nodup
      rw [List.length_map] at this
      exact lt_line (by omega)
    · rw [(putTd_keys hput).2, hl, take_foldl ht]
  obtain ⟨k1, l1, hd1, hl1⟩ := p'
  have hl1 : l1.map (·.1) = start0 hs := by rw [hl1, hul, List.take_length]; rfl
  have h0U : ∀ x ∈ start0 hs, x ∈ U := fun x hx => hsU x (start0_mem.mp hx)
  -- the while
  refine ⟨_, rfl, ?_⟩
  refine while_by (fun σ' H' => ∃ many x3 x4, σ' = [some (.ref p), some (.ref D1), some (.int many), x3, x4] ∧ SamX (fun b => b = D1) H H' ∧ ∃ l, TD w H' D1 l ∧ (∃ k, l.map (·.1) = iter k (start0 hs)) ∧ many ≤ l.length ∧ -1 ≤ many ∧ (0 ≤ many → ∃ G, l.map (·.1) = swp G ∧ many = (G.length : Int)))
    (fun σ' _ => muL σ') ⟨-1, none, none, rfl, k1, l1, hd1, ⟨0, hl1⟩, by omega, by omega, fun z => by omega⟩ (fun σ' H2 pv2 => ?_) (fun σ' H2 Q1 Q2 m ⟨v, e, v2, e2, d, l, e3, e4, e5, k, e6, q'⟩ => ⟨v, e, v2, e2, d, l, e3, e4, e5, k, e6, m _ _ q'⟩)
  obtain ⟨many, x3, x4, rfl, k2, l2, hd2, ⟨kk, hk2⟩, hle, hge, hG2⟩ := pv2
  have hl2U : ∀ z ∈ l2.map (·.1), z ∈ U := fun z hz => iter_sub hK kk h0U z (hk2 ▸ hz)
  have h63 : l2.length ≤ 63 := by
    have := len_U hU hl2U hd2.nodup
    rw [List.length_map] at this
    exact this
  refine ⟨_, rfl, _, rfl, D1, l2, rfl, hd2, rfl, _, rfl, ?_⟩
  by_cases hmany : many = (l2.length : Int)
  · refine ifF (by rw [decide_eq_true (congrArg V.int hmany)]; rfl) ⟨_, rfl, q D1 l2 H2 (same_new k2 hD1) hd2 ⟨⟨kk, hk2⟩, ?_⟩⟩
    obtain ⟨G, e1, e2⟩ := hG2 (by omega)
    have e3 : G.length = (swp G).length := by rw [← e1, List.length_map]; omega
    have e4 : G = swp G := List.IsPrefix.eq_of_length (swp_ge G) e3
    rw [e1, ← e4, ← e4]
  · refine ifT (by rw [decide_eq_false (fun z => hmany (V.int.inj z))]; rfl) ?_
    generalize hGe : l2.map (·.1) = G at *
    have hGl : l2.length = G.length := by rw [← hGe, List.length_map]
    refine ⟨_, rfl, D1, l2, rfl, hd2, _, rfl, D1, l2, rfl, hd2, fun L vs hL hvs => ⟨L, rfl, ⟨_, SqL.of upd_same⟩, ?_⟩⟩
    have hLD : L ≠ D1 := fun z => by
      obtain ⟨o, ho⟩ := hd2.some
      rw [← z, hL] at ho
      cases ho
    rw [hGe] at hvs
    have hvl : vs.length = G.length := (Paired.length hvs).symm
    refine for_it walk_list (fun i σ' H' => ∃ x3 x4, σ' = [some (.ref p), some (.ref D1), some (.int l2.length), x3, x4] ∧ SamX (fun b => b = D1) H2 H' ∧ H' L = some (.lst vs) ∧ ∃ l, TD w H' D1 l ∧ l.map (·.1) = (G.take i).foldl opn G)
      ⟨x3, x4, rfl, (SamX.refl _ H2).up hL, upd_same, l2, hd2.same (sUp hL), hGe⟩ (fun i σ' H' _ pp => by obtain ⟨_, _, _, _, e, _⟩ := pp; exact SqL.of e) (fun i x σ' H3 H4 hi pp y => ?_) (fun σ' H3 pp => ?_)
    · obtain ⟨x3', x4', rfl, k3, hL3, l3, hd3, hl3⟩ := pp
      obtain ⟨rfl, hy⟩ := y
      obtain ⟨t, ht⟩ : ∃ t, G[i]? = some t := ⟨_, List.getElem?_eq_getElem (by omega)⟩
      obtain ⟨x', hx', htx⟩ := paired_at hvs ht
      have e : x' = x := by rw [hy] at hx'; exact (Option.some.inj hx').symm
      subst e
      have htU : t ∈ U := hl2U t (List.mem_of_getElem? ht)
      have tu3 : Tups H2 H4 := k3.tups fun a e xs => by subst e; exact hd2.notup xs
      have hF3 : ∀ z ∈ l3.map (·.1), z ∈ U := fun z hz => foldl_opn_sub hK (G.take i) G hl2U (fun y hy => hl2U y (take_mem hy)) z (hl3 ▸ hz)
      refine ⟨_, rfl, _, rfl, D1, l3, x', t, rfl, hd3, htx.mono tu3, hG.1 t htU, by have := hG.2 t htU; omega, fun p2 H5 us2 k5 hp2 hn2 hus2 => ⟨p2, rfl, ⟨_, SqL.of hp2⟩, ?_⟩⟩
      generalize hF : l3.map (·.1) = F at *
      have hul2 : us2.length = (openings F t).length := (Paired.length hus2).symm
      have hp2D : p2 ≠ D1 := fun z => by
        obtain ⟨o, ho⟩ := hd3.some
        rw [← z, hn2] at ho
        cases ho
      have hd5 := hd3.same k5
      refine for_it walk_list (fun j σ' H' => ∃ x4, σ' = [some (.ref p), some (.ref D1), some (.int l2.length), some x', x4] ∧ SamX (fun b => b = D1) H5 H' ∧ ∃ l, TD w H' D1 l ∧ l.map (·.1) = ((openings F t).take j).foldl ins F)
        ⟨x4', rfl, SamX.refl _ H5, l3, hd5, hF⟩ (fun j σ' H' _ pp => by obtain ⟨_, _, k, _⟩ := pp; exact SqL.of (k _ _ hp2D hp2)) (fun j u σ' H6 H7 hj pp y2 => ?_) (fun σ' H6 pp => ?_)
      · obtain ⟨x4'', rfl, k6, l6, hd6, hl6⟩ := pp
        obtain ⟨rfl, hy2⟩ := y2
        obtain ⟨tu, htu⟩ : ∃ tu, (openings F t)[j]? = some tu := ⟨_, List.getElem?_eq_getElem (by omega)⟩
        obtain ⟨u', hu', htu'⟩ := paired_at hus2 htu
        have e : u' = u := by rw [hy2] at hu'; exact (Option.some.inj hu').symm
        subst e
        have hmo := List.mem_of_getElem? htu
        have tu6 : Tups H5 H7 := k6.tups fun a e xs => by subst e; exact hd5.notup xs
        have h6U : ∀ z ∈ l6.map (·.1), z ∈ U := fun z hz => by
          rw [hl6, foldl_ins_mem] at hz
          exact hz.elim (fun q => hF3 z q) fun q => hK t htU z (openings_kid (take_mem q))
        refine ⟨_, rfl, _, rfl, D1, l6, tu, rfl, hd6, ?_, htu'.mono tu6, by have := hG.2 tu (hK t htU tu (openings_kid hmo)); omega, fun H8 hput => ⟨_, rfl, k6.trans (putTd_sam hput), _, (putTd_keys hput).1, ?_⟩⟩
        · have := len_U hU h6U hd6.nodup
          rw [List.length_map] at this
          exact lt_line (by omega)
        · rw [(putTd_keys hput).2, hl6, take_foldl htu]
      · obtain ⟨x4'', rfl, k6, l6, hd6, hl6⟩ := pp
        rw [hul2, List.take_length] at hl6
        exact ⟨_, _, rfl, k3.trans ((Same.x _ k5).trans k6), k6 _ _ hLD (k5 _ _ hL3), l6, hd6, by rw [hl6, take_foldl ht, ← hl3]; rfl⟩
    · obtain ⟨x3', x4', rfl, k3, hL3, l3, hd3, hl3⟩ := pp
      rw [hvl, List.take_length] at hl3
      have hl3 : l3.map (·.1) = swp G := hl3
      have hlen : G.length ≤ l3.length := by
        have := (swp_ge G).length_le
        rw [← hl3, List.length_map] at this
        exact this
      refine ⟨⟨l2.length, _, _, rfl, k2.trans k3, l3, hd3, ⟨kk + 1, ?_⟩, by omega, by omega, fun _ => ⟨G, hl3, by omega⟩⟩, ?_⟩
      · rw [hl3, hk2]
        exact (iter_add 1 kk _).symm
      · show muI (l2.length : Int) < muI many
        unfold muI
        omega
end
end Kt
/-! The walks: checks. -/
namespace Kt
open PySem PySem.Spec PyProof.Rows L2
open Tm
section
variable {P : Program} {w : World} {K : PySem.W.Frag} {mg : PySem.Str → Option Value} {base : Heap}
/-! ### what can be made, what is opened, papers -/
/-- a hearing as the law hands it -/
def Hear (H : Hp) (a : Addr) (hs : List Tm) : Prop := ∃ us, H a = some (.lst us) ∧ TmVs H hs us ∧ hs.length ≤ 40 ∧ Good hs ∧ UB hs
theorem Hear.same {H H' : Hp} {a : Addr} {hs : List Tm} (h : Hear H a hs) (k : Same H H') : Hear H' a hs := by
  obtain ⟨us, e, h1, h2⟩ := h
  exact ⟨us, k _ _ e, TmVs.same k h1, h2⟩
theorem clo_U {hs F : List Tm} (h : IsClo (start0 hs) F) (hu : UB hs) : Good F ∧ F.length ≤ 63 := by
  obtain ⟨U, hU, hK, hG, hs'⟩ := hu
  have hF : ∀ x ∈ F, x ∈ U := h.sub hK fun x hx => hs' x (start0_mem.mp hx)
  exact ⟨⟨fun t ht => hG.1 t (hF t ht), fun t ht => hG.2 t (hF t ht)⟩, len_U hU hF (h.nodup (start0_nodup hs))⟩
abbrev N_can_make : List PySem.Str := ["hearing", "term", "row"]
abbrev P_can_make : List PySem.Str := ["hearing", "term"]
theorem sc_can_make : FnScope N_can_make P_can_make (defScope s_can_make) := ⟨rfl, rfl, rfl, by decide +kernel, rfl, by decide +kernel, by decide +kernel⟩
def sp_can_make : Sp := fun vs H Q _ => ∃ a hs v t, vs = [.ref a, v] ∧ Hear H a hs ∧ TmV H t v ∧ WF NameOk t ∧ t.depth ≤ 5 ∧ ∀ F H', IsClo (start0 hs) F → Same H H' → Q (.bl (built F t)) H'
section
variable (T : Gs K mg w) (c_good_hearing : C8.Cal P w K mg base 11 "good_hearing" sp_good_hearing []) (c_check_term : C8.Cal P w K mg base 11 "check_term" sp_check_term []) (c_is_built : C8.Cal P w K mg base 9 "is_built" (sp_is_built (w := w) 7) []) (c_least_closed : C8.Cal P w K mg base 11 "least_closed" (sp_least_closed (w := w)) [])
include T c_good_hearing c_check_term c_is_built c_least_closed
theorem c_can_make (D : Dfn K mg "can_make" s_can_make) : C8.Cal P w K mg base 12 "can_make" sp_can_make [] := by
  have sc := sc_can_make
  refine mkCal D (fun _ _ _ _ _ _ us hl => match us, hl with | [_, _], _ => rfl) sc (fun vs H Q E h => by obtain ⟨a, hs, v, t, rfl, _⟩ := h; rfl) fun cdv A outer s H vs Q E ff hr h => ?_
  obtain ⟨a, hs, v, t, rfl, ⟨us, ha, hus, h40, hg, hub⟩, ht, hw, h5, q⟩ := h
  refine ⟨_, (pss_cons (ps_set (i := 2) sc.nd rfl (Or.inl rfl) (C8.pe_c c_good_hearing hr (by first | decide | omega) rfl (pa_cons (pv 0) pa_nil))) (pss_cons (ps_expr (C8.pe_c c_check_term hr (by first | decide | omega) rfl (pa_cons (pv 1) pa_nil))) (pss_one (ps_ret (C8.pe_c c_is_built hr (by first | decide | omega) rfl (pa_cons (C8.pe_c c_least_closed hr (by first | decide | omega) rfl (pa_cons (pv 2) pa_nil)) (pa_cons (pv 1) pa_nil))))))), ?_⟩
  refine ⟨_, rfl, a, hs, us, rfl, ha, hus, h40, hg, fun p H1 k1 hp => ⟨_, rfl, v, t, rfl, ht.same k1, hw, h5, fun H2 k2 => ⟨_, rfl, p, hs, us, rfl, k2 _ _ hp, TmVs.same (k1.trans k2) hus, hub, by omega, fun d l H3 k3 hd hc => ⟨_, rfl, d, l, v, t, rfl, hd, ht.same (k1.trans (k2.trans k3)), hw, by omega, by have := rk_le hw; omega, fun H4 k4 => ?_⟩⟩⟩⟩
  exact q _ _ hc (k1.trans (k2.trans (k3.trans k4)))
end
abbrev N_opened : List PySem.Str := ["hearing"]
abbrev P_opened : List PySem.Str := ["hearing"]
theorem sc_opened : FnScope N_opened P_opened (defScope s_opened) := ⟨rfl, rfl, rfl, by decide +kernel, rfl, by decide +kernel, by decide +kernel⟩
def sp_opened : Sp := fun vs H Q _ => ∃ a hs, vs = [.ref a] ∧ Hear H a hs ∧ ∀ p F ts us H', IsClo (start0 hs) F → Same H H' → InOrder F ts → TmVs H' ts us → H' p = some (.lst us) → Q (.ref p) H'
section
variable (T : Gs K mg w) (c_good_hearing : C8.Cal P w K mg base 11 "good_hearing" sp_good_hearing []) (c_by_wordings : C8.Cal P w K mg base 7 "by_wordings" (sp_by_wordings (w := w)) []) (c_least_closed : C8.Cal P w K mg base 11 "least_closed" (sp_least_closed (w := w)) [])
include T c_good_hearing c_by_wordings c_least_closed
theorem c_opened (D : Dfn K mg "opened" s_opened) : C8.Cal P w K mg base 12 "opened" sp_opened [] := by
  have sc := sc_opened
  refine mkCal D (fun _ _ _ _ _ _ us hl => match us, hl with | [_], _ => rfl) sc (fun vs H Q E h => by obtain ⟨a, hs, rfl, _⟩ := h; rfl) fun cdv A outer s H vs Q E ff hr h => ?_
  obtain ⟨a, hs, rfl, ⟨us, ha, hus, h40, hg, hub⟩, q⟩ := h
  refine ⟨_, (pss_one (ps_ret (C8.pe_c c_by_wordings hr (by first | decide | omega) rfl (pa_cons (C8.pe_c c_least_closed hr (by first | decide | omega) rfl (pa_cons (C8.pe_c c_good_hearing hr (by first | decide | omega) rfl (pa_cons (pv 0) pa_nil)) pa_nil)) pa_nil)))), ?_⟩
  refine ⟨_, rfl, a, hs, us, rfl, ha, hus, h40, hg, fun p H1 k1 hp => ⟨p, hs, us, rfl, hp, TmVs.same k1 hus, hub, by omega, fun d l H3 k3 hd hc => ⟨d, l, rfl, hd, ?_, (clo_U hc hub).1.1, (clo_U hc hub).1.2, fun p2 H4 ts us2 k4 ho hts hp2 => ?_⟩⟩⟩
  · have := (clo_U hc hub).2
    rw [List.length_map] at this
    omega
  · exact q p2 _ ts us2 H4 hc (k1.trans (k3.trans k4)) ho hts hp2
end
abbrev N_closed_paper : List PySem.Str := ["hearing", "term", "row", "found"]
abbrev P_closed_paper : List PySem.Str := ["hearing", "term"]
theorem sc_closed_paper : FnScope N_closed_paper P_closed_paper (defScope s_closed_paper) := ⟨rfl, rfl, rfl, by decide +kernel, rfl, by decide +kernel, by decide +kernel⟩
def sp_closed_paper : Sp := fun vs H Q _ => ∃ a hs v t, vs = [.ref a, v] ∧ Hear H a hs ∧ TmV H t v ∧ WF NameOk t ∧ t.depth ≤ 5 ∧ (∀ F, IsClo (start0 hs) F → built F t = false) ∧ ∀ p F ts us H', IsClo (start0 hs) F → Same H H' → InOrder F ts → TmVs H' ts us → H' p = some (.lst us) → Q (.ref p) H'
section
variable (T : Gs K mg w) (c_good_hearing : C8.Cal P w K mg base 11 "good_hearing" sp_good_hearing []) (c_check_term : C8.Cal P w K mg base 11 "check_term" sp_check_term []) (c_is_built : C8.Cal P w K mg base 9 "is_built" (sp_is_built (w := w) 7) []) (c_by_wordings : C8.Cal P w K mg base 7 "by_wordings" (sp_by_wordings (w := w)) []) (c_least_closed : C8.Cal P w K mg base 11 "least_closed" (sp_least_closed (w := w)) [])
include T c_good_hearing c_check_term c_is_built c_by_wordings c_least_closed
theorem c_closed_paper (D : Dfn K mg "closed_paper" s_closed_paper) : C8.Cal P w K mg base 12 "closed_paper" sp_closed_paper [] := by
  have sc := sc_closed_paper
  refine mkCal D (fun _ _ _ _ _ _ us hl => match us, hl with | [_, _], _ => rfl) sc (fun vs H Q E h => by obtain ⟨a, hs, v, t, rfl, _⟩ := h; rfl) fun cdv A outer s H vs Q E ff hr h => ?_
  obtain ⟨a, hs, v, t, rfl, ⟨us, ha, hus, h40, hg, hub⟩, ht, hw, h5, hnb, q⟩ := h
  refine ⟨_, (pss_cons (ps_set (i := 2) sc.nd rfl (Or.inl rfl) (C8.pe_c c_good_hearing hr (by first | decide | omega) rfl (pa_cons (pv 0) pa_nil))) (pss_cons (ps_expr (C8.pe_c c_check_term hr (by first | decide | omega) rfl (pa_cons (pv 1) pa_nil))) (pss_cons (ps_set (i := 3) sc.nd rfl (Or.inl rfl) (C8.pe_c c_least_closed hr (by first | decide | omega) rfl (pa_cons (pv 2) pa_nil))) (pss_one (ps_ret (pe_ifExp (pt_val (C8.pe_c c_is_built hr (by first | decide | omega) rfl (pa_cons (pv 3) (pa_cons (pv 1) pa_nil)))) pe_non (C8.pe_c c_by_wordings hr (by first | decide | omega) rfl (pa_cons (pv 3) pa_nil)))))))), ?_⟩
  refine ⟨_, rfl, a, hs, us, rfl, ha, hus, h40, hg, fun p H1 k1 hp => ⟨_, rfl, v, t, rfl, ht.same k1, hw, h5, fun H2 k2 => ⟨_, rfl, p, hs, us, rfl, k2 _ _ hp, TmVs.same (k1.trans k2) hus, hub, by omega, fun d l H3 k3 hd hc => ⟨_, rfl, _, rfl, d, l, v, t, rfl, hd, ht.same (k1.trans (k2.trans k3)), hw, by omega, by have := rk_le hw; omega, fun H4 k4 => ⟨_, rfl, ifF (hnb _ hc) ⟨_, rfl, d, l, rfl, hd.same k4, ?_, (clo_U hc hub).1.1, (clo_U hc hub).1.2, fun p2 H5 ts us2 k5 ho hts hp2 => ?_⟩⟩⟩⟩⟩⟩
  · have := (clo_U hc hub).2
    rw [List.length_map] at this
    omega
  · exact q p2 _ ts us2 H5 hc (k1.trans (k2.trans (k3.trans (k4.trans k5)))) ho hts hp2
end
abbrev N_is_closed_paper : List PySem.Str := ["hearing", "term", "thing", "row", "found", "item", "heard", "inner"]
abbrev P_is_closed_paper : List PySem.Str := ["hearing", "term", "thing"]
theorem sc_is_closed_paper : FnScope N_is_closed_paper P_is_closed_paper (defScope s_is_closed_paper) := ⟨rfl, rfl, rfl, by decide +kernel, rfl, by decide +kernel, by decide +kernel⟩
def sp_is_closed_paper : Sp := fun vs H Q _ => ∃ a hs v t b Fs us, vs = [.ref a, v, .ref b] ∧ Hear H a hs ∧ TmV H t v ∧ WF NameOk t ∧ t.depth ≤ 5 ∧ H b = some (.lst us) ∧ TmVs H Fs us ∧ Good Fs ∧ Fs.length ≤ 63 ∧ (∀ x ∈ hs, x ∈ Fs) ∧ built Fs t = false ∧ Closed Fs ∧ ∀ H', Same H H' → Q (.bl true) H'
theorem lc2_out {J : It} {n : Nat} {G : Hp → Prop} {Y : Nat → Hp → V → Hp → Prop} (w : Walk J n G Y) {g : TG} {B : L2.St → Hp → (Hp → Prop) → Prop} {vs : List Nat} {σ : L2.St} {H1 : Hp} {D : Addr} {Qd : Hp → Prop} (Pv : Nat → Hp → Prop) (h0 : Pv 0 (upd H1 D (.lst []))) (hG : ∀ i H, i ≤ n → Pv i H → G H)
    (hs : ∀ i x H H', i < n → Pv i H → Y i H x H' → g x (wipe σ vs) H' fun σ2 H2 => wipe σ2 vs = wipe σ vs ∧ B σ2 H2 (Pv (i + 1))) (hd : ∀ H, Pv n H → Qd H) :
    ∃ W : Nat → Nat → Hp → Prop, (∃ m, W 0 m (upd H1 D (.lst []))) ∧ ∀ i m H, W i m H →
      (J.stop i H ∧ Qd H) ∨ (J.go i H ∧ ∃ Nx : Hp → Prop, (∀ H', Nx H' → ∃ m', m' < m ∧ W (i + 1) m' H') ∧ ∀ x H', J.yld i H x H' → g x (wipe σ vs) H' fun σ2 H2 => wipe σ2 vs = wipe σ vs ∧ tYes σ2 H2 fun b H3 =>
        if b = true then B σ2 H3 Nx else Nx H3) := by
  refine ⟨fun i m H => m = n - i ∧ i ≤ n ∧ Pv i H, ⟨n, by simp, Nat.zero_le _, h0⟩, ?_⟩
  rintro i m H ⟨rfl, hi, p⟩
  have q := hG i H hi p
  by_cases hlt : i < n
  · exact .inr ⟨w.goes i H hlt q, Pv (i + 1), fun H' p' => ⟨n - (i + 1), by omega, rfl, hlt, p'⟩, fun x H' y => hs i x H H' hlt p (w.yields i H x H' hlt q y)⟩
  · have e : i = n := by omega
    subst e
    exact .inl ⟨w.stops H q, hd H p⟩
theorem lc2_in {J : It} {n : Nat} {G : Hp → Prop} {Y : Nat → Hp → V → Hp → Prop} (w : Walk J n G Y) {g : TG} {te : TE} {vs : List Nat} {σ : L2.St} {H1 : Hp} {D : Addr} {Nx : Hp → Prop} (Pv : Nat → Hp → Prop) (h0 : Pv 0 H1) (hG : ∀ i H, i ≤ n → Pv i H → G H)
    (hs : ∀ i x H H', i < n → Pv i H → Y i H x H' → g x (wipe σ vs) H' fun σ2 H2 => wipe σ2 vs = wipe σ vs ∧ te σ2 H2 fun y H7 => ∃ acc, H7 D = some (.lst acc) ∧ acc.length < sizeLine ∧ Pv (i + 1) (upd H7 D (.lst (acc ++ [y])))) (hd : ∀ H, Pv n H → Nx H) :
    ∃ W : Nat → Nat → Hp → Prop, (∃ m, W 0 m H1) ∧ ∀ i m H, W i m H →
      (J.stop i H ∧ Nx H) ∨ (J.go i H ∧ ∃ Nx1 : Hp → Prop, (∀ H', Nx1 H' → ∃ m', m' < m ∧ W (i + 1) m' H') ∧ ∀ x H', J.yld i H x H' → g x (wipe σ vs) H' fun σ2 H2 => wipe σ2 vs = wipe σ vs ∧ tYes σ2 H2 fun b H6 =>
        if b = true then te σ2 H6 fun y H7 => ∃ acc, H7 D = some (.lst acc) ∧ acc.length < sizeLine ∧ Nx1 (upd H7 D (.lst (acc ++ [y]))) else Nx1 H6) := by
  refine ⟨fun i m H => m = n - i ∧ i ≤ n ∧ Pv i H, ⟨n, by simp, Nat.zero_le _, h0⟩, ?_⟩
  rintro i m H ⟨rfl, hi, p⟩
  have q := hG i H hi p
  by_cases hlt : i < n
  · exact .inr ⟨w.goes i H hlt q, Pv (i + 1), fun H' p' => ⟨n - (i + 1), by omega, rfl, hlt, p'⟩, fun x H' y => hs i x H H' hlt p (w.yields i H x H' hlt q y)⟩
  · have e : i = n := by omega
    subst e
    exact .inl ⟨w.stops H q, hd H p⟩
theorem all_true {acc : List V} (h : ∀ v ∈ acc, v = .bl true) : acc = (acc.map fun _ => true).map V.bl := by
  induction acc with
  | nil => rfl
  | cons a l ih =>
    rw [List.map_cons, List.map_cons, ← ih fun v hv => h v (by simp [hv]), h a (by simp)]
theorem all_id (acc : List V) : (acc.map fun _ => true).all id = true := by
  rw [all_map]
  exact List.all_eq_true.mpr fun _ _ => rfl
theorem openings_len (F : List Tm) (t : Tm) : (openings F t).length ≤ 2 := by
  cases t with
  | nm x => exact Nat.zero_le _
  | un g a => exact Nat.zero_le _
  | bi g a b =>
    cases g with
    | pair => exact Nat.le_refl _
    | mark => exact Nat.le_succ _
    | box =>
      show (if built F a = true then [b] else []).length ≤ 2
      split <;> simp
    | shut =>
      show (if built F a = true then [b] else []).length ≤ 2
      split <;> simp
section
variable (T : Gs K mg w) (c_good_hearing : C8.Cal P w K mg base 11 "good_hearing" sp_good_hearing []) (c_check_term : C8.Cal P w K mg base 11 "check_term" sp_check_term []) (c_is_term : C8.Cal P w K mg base 10 "is_term" sp_is_term []) (c_is_built : C8.Cal P w K mg base 9 "is_built" (sp_is_built (w := w) 7) []) (c_openings : C8.Cal P w K mg base 10 "openings" (sp_openings (w := w)) [])
include T c_good_hearing c_check_term c_is_term c_is_built c_openings
theorem c_is_closed_paper (D : Dfn K mg "is_closed_paper" s_is_closed_paper) : C8.Cal P w K mg base 12 "is_closed_paper" sp_is_closed_paper [] := by
  have sc := sc_is_closed_paper
  refine mkCal D (fun _ _ _ _ _ _ us hl => match us, hl with | [_, _, _], _ => rfl) sc (fun vs H Q E h => by obtain ⟨a, hs, v, t, b, Fs, us, rfl, _⟩ := h; rfl) fun cdv A outer s H vs Q E ff hr h => ?_
  obtain ⟨a, hs, v, t, b, Fs, us, rfl, ⟨us0, ha, hus0, h40, hg, hub⟩, ht, hw, h5, hb, hus, hFg, hF63, hall, hnb, hcl, q⟩ := h
  have hul : us.length = Fs.length := (Paired.length hus).symm
  have hul0 : us0.length = hs.length := (Paired.length hus0).symm
  refine ⟨_, (pss_cons (ps_set (i := 3) sc.nd rfl (Or.inl rfl) (C8.pe_c c_good_hearing hr (by first | decide | omega) rfl (pa_cons (pv 0) pa_nil))) (pss_cons (ps_expr (C8.pe_c c_check_term hr (by first | decide | omega) rfl (pa_cons (pv 1) pa_nil))) (pss_cons (ps_if (PW.pt (pw_or (pt_not (pt_val (pe_callB (call_isK .lst) rfl T.isinstance (by decide +kernel) (pa_cons (pv 2) (pa_cons (pe_kn .lst rfl T.list) pa_nil))))) (pw_or1 (pt_not (pt_val (pe_callB (cr_all rfl) rfl T.all (by decide +kernel) (pa_cons (pe_lc (own := [("item", 5)]) (g := gName 5) (tt := tYes) rfl sc.nd (pi_list (pv 2)) (blkOk_by (N := N_is_closed_paper) (sc := defScope s_is_closed_paper) (by decide +kernel)) (fun _ _ _ _ _ => (pg_name (i := 5) sc.nd rfl (Or.inl rfl))) (fun _ _ _ _ _ => pts_nil) (fun _ _ _ _ _ => (C8.pe_c c_is_term hr (by first | decide | omega) rfl (pa_cons (pv 5) pa_nil)))) pa_nil))))))) (pss_one (ps_ret pe_bl)) pss_nil) (pss_cons (ps_set (i := 4) sc.nd rfl (Or.inr rfl) (pe_dcT (own := [("item", 5)]) (g := gName 5) (tt := tYes) hr.units rfl sc.nd (pi_list (pv 2)) (blkOk_by (N := N_is_closed_paper) (sc := defScope s_is_closed_paper) (by decide +kernel)) (fun _ _ _ _ _ => (pg_name (i := 5) sc.nd rfl (Or.inl rfl))) (fun _ _ _ _ _ => pts_nil) (fun _ _ _ _ _ => (pv 5)) (fun _ _ _ _ _ => pe_bl))) (pss_cons (ps_if (PW.pt (pw_or (pt_val (pe_callB (cr_any rfl) rfl T.any (by decide +kernel) (pa_cons (pe_lc (own := [("heard", 6)]) (g := gName 6) (tt := tYes) rfl sc.nd (pi_tup (pv 3)) (blkOk_by (N := N_is_closed_paper) (sc := defScope s_is_closed_paper) (by decide +kernel)) (fun _ _ _ _ _ => (pg_name (i := 6) sc.nd rfl (Or.inl rfl))) (fun _ _ _ _ _ => pts_nil) (fun _ _ _ _ _ => (pe_cmpR (show OpR _ _ (rInTd w true) from (op_notInTd hr.units)) (pv 6) (pv 4) rfl))) pa_nil))) (pw_or1 (pt_val (C8.pe_c c_is_built hr (by first | decide | omega) rfl (pa_cons (pv 4) (pa_cons (pv 1) pa_nil))))))) (pss_one (ps_ret pe_bl)) pss_nil) (pss_one (ps_ret (pe_callB (cr_all rfl) rfl T.all (by decide +kernel) (pa_cons (pe_lc2 (own := [("item", 5), ("inner", 7)]) (vs1 := [7]) (g := gName 5) (tt := tYes) (g1 := gName 7) (tt1 := tYes) rfl sc.nd (pi_td (pv 4)) (blkOk_by (N := N_is_closed_paper) (sc := defScope s_is_closed_paper) (by decide +kernel)) (by decide) (fun _ _ _ _ _ => (pg_name (i := 5) sc.nd rfl (Or.inl rfl))) (fun _ _ _ _ _ => pts_nil) (fun _ _ _ _ _ => (show PI _ _ _ (iList K _) from pi_list (C8.pe_c c_openings hr (by first | decide | omega) rfl (pa_cons (pv 4) (pa_cons (pv 5) pa_nil))))) (fun _ _ _ _ _ => (pg_name (i := 7) sc.nd rfl (Or.inl rfl))) (fun _ _ _ _ _ => pts_nil) (fun _ _ _ _ _ => (pe_cmpR (show OpR _ _ (rInTd w false) from (op_inTd hr.units)) (pv 7) (pv 4) rfl))) pa_nil))))))))), ?_⟩
  refine ⟨_, rfl, a, hs, us0, rfl, ha, hus0, h40, hg, fun p H1 k1 hp => ⟨_, rfl, v, t, rfl, ht.same k1, hw, h5, fun H2 k2 => ?_⟩⟩
  have k12 := k1.trans k2
  refine ⟨_, rfl, rfl, _, .lst (k12 _ _ hb), _, rfl, iteF ⟨_, rfl, b, rfl, ⟨_, SqL.of (k12 _ _ hb)⟩, fun L hL => lc_map walk_list (fun _ _ v => v = .bl true) (lt_line (by omega)) hL (fun _ _ _ _ _ e => e) (fun H3 k => SqL.of (k _ _ (k12 _ _ hb))) (fun i y H3 H4 N hi k y1 n' => ?_) (fun H3 acc k3 hacc hl hr' => ?_)⟩⟩
  · obtain ⟨rfl, hy⟩ := y1
    obtain ⟨kt, hkt⟩ : ∃ kt, Fs[i]? = some kt := ⟨_, List.getElem?_eq_getElem (by omega)⟩
    obtain ⟨y', hy', hty⟩ := paired_at hus hkt
    have e : y' = y := by rw [hy] at hy'; exact (Option.some.inj hy').symm
    subst e
    have hmem := List.mem_of_getElem? hkt
    exact ⟨rfl, _, rfl, y', kt, rfl, hty.same (k12.trans k), hFg.1 _ hmem, hFg.2 _ hmem, fun H' k' => n' _ _ k' rfl⟩
  have e1 := all_true (acc := acc) fun v hv => by
    obtain ⟨i, hi⟩ := List.getElem?_of_mem hv
    exact hr' i v hi
  refine ⟨_, _, rfl, SqL.of (hacc.trans (congrArg (fun z => some (HO.lst z)) e1)), _, rfl, ifF (by rw [all_id]; rfl) ?_⟩
  have k123 := k12.trans k3
  have hb3 := k123 _ _ hb
  -- the dict of what is told
  refine ⟨_, rfl, b, rfl, ⟨_, SqL.of hb3⟩, fun D1 hD1 hempty => ?_⟩
  have hbD : b ≠ D1 := fun z => by subst z; rw [hb3] at hD1; cases hD1
  refine dcT_seq (n := us.length) (fun i H' => SamX (fun b => b = D1) H3 H' ∧ ∃ l, TD w H' D1 l ∧ l.map (·.1) = (Fs.take i).foldl ins []) ⟨fun b o n e => (upd_ne n).trans e, [], hempty w, rfl⟩ (fun i H' hi p' => ⟨fun lt => walk_list.goes i H' lt (SqL.of (p'.1 _ _ hbD hb3)), fun ge => by
    have e : i = us.length := by omega
    subst e
    exact walk_list.stops H' (SqL.of (p'.1 _ _ hbD hb3))⟩) (fun i x H4 H5 hi p' y => ?_) (fun H4 p' => ?_)
  · obtain ⟨rfl, hy⟩ := y
    obtain ⟨k, l, hd, hl⟩ := p'
    have hy : us[i]? = some x := hy us (SqL.of (k _ _ hbD hb3))
    obtain ⟨t', ht'⟩ : ∃ t, Fs[i]? = some t := ⟨_, List.getElem?_eq_getElem (by omega)⟩
    obtain ⟨x', hx', htx⟩ := paired_at hus ht'
    have e : x' = x := by rw [hy] at hx'; exact (Option.some.inj hx').symm
    subst e
    have hm := List.mem_of_getElem? ht'
    have hlF : ∀ z ∈ l.map (·.1), z ∈ Fs := fun z hz => by
      rw [hl, foldl_ins_mem] at hz
      exact take_mem (hz.elim (fun q => by cases q) id)
    refine ⟨rfl, _, rfl, l, t', hd, ?_, htx.same (k123.trans (same_new k hD1)), by have := hFg.2 t' hm; omega, fun H6 hput => ⟨k.trans (putTd_sam hput), _, (putTd_keys hput).1, ?_⟩⟩
    · have := nodup_len hd.nodup hlF
      rw [List.length_map] at this
      exact lt_line (by omega)
    · rw [(putTd_keys hput).2, hl, take_foldl ht']
  obtain ⟨k4, l, hd, hl⟩ := p'
  have hl : l.map (·.1) = start0 Fs := by rw [hl, hul, List.take_length]; rfl
  have hmem : ∀ x, x ∈ l.map (·.1) ↔ x ∈ Fs := fun x => by rw [hl]; exact start0_mem
  have k04 := k123.trans (same_new k4 hD1)
  have hp4 := (k2.trans (k3.trans (same_new k4 hD1))) _ _ hp
  -- all that was heard is told
  refine ⟨_, rfl, p, rfl, ⟨_, SqT.of hp4⟩, fun L2 hL2 => lc_map walk_tup (fun _ _ v => v = .bl false) (lt_line (by omega)) hL2 (fun _ _ _ _ _ e => e) (fun H5 k => SqT.of (k _ _ hp4)) (fun i y H5 H6 N hi k y1 n' => ?_) (fun H5 acc5 k5 hacc5 hl5 hr5 => ?_)⟩
  · obtain ⟨rfl, hy⟩ := y1
    obtain ⟨kt, hkt⟩ : ∃ kt, hs[i]? = some kt := ⟨_, List.getElem?_eq_getElem (by omega)⟩
    obtain ⟨y', hy', hty⟩ := paired_at hus0 hkt
    have e : y' = y := by rw [hy] at hy'; exact (Option.some.inj hy').symm
    subst e
    have hm := List.mem_of_getElem? hkt
    refine ⟨rfl, _, rfl, _, rfl, D1, l, kt, rfl, hd.same k, hty.same (k04.trans k), by have := hg.2 _ hm; omega, n' _ _ (Same.refl _) ?_⟩
    rw [decide_eq_true ((hmem kt).mpr (hall kt hm))]
    rfl
  have e5 : acc5 = ((List.range us0.length).map fun _ => false).map V.bl := boolsL (b := fun _ => false) hl5 hr5
  have e6 : (((List.range us0.length).map fun _ => false).any id) = false := by
    rw [List.any_eq_false]
    intro x hx
    obtain ⟨_, _, rfl⟩ := List.mem_map.mp hx
    exact Bool.false_ne_true
  refine ⟨_, _, rfl, SqL.of (hacc5.trans (congrArg (fun z => some (HO.lst z)) e5)), _, rfl, ifF e6 ⟨_, rfl, _, rfl, D1, l, v, t, rfl, hd.same k5, ht.same (k04.trans k5), hw, by omega, by have := rk_le hw; omega, fun H6 k6 => ⟨_, rfl, ifF ((built_same hmem t).trans hnb) ?_⟩⟩⟩
  -- closed
  have hd6 := hd.same (k5.trans k6)
  have k06 := k04.trans (k5.trans k6)
  refine ⟨_, rfl, D1, l, rfl, hd6, fun es ep e1 e2 L3 hL3 => ?_⟩
  have hD3 : D1 ≠ L3 := fun z => by subst z; rw [e1] at hL3; cases hL3
  have hlen63 : l.length ≤ 63 := by
    have := nodup_len hd6.nodup (fun x hx => (hmem x).mp hx)
    rw [List.length_map] at this
    omega
  refine lc2_out walk_td (fun i H' => SamX (fun b => b = L3) H6 H' ∧ Tups H6 H' ∧ ∃ acc, H' L3 = some (.lst acc) ∧ acc.length ≤ 2 * i ∧ ∀ v ∈ acc, v = .bl true) ⟨fun b o n e => (upd_ne n).trans e, tups_up (fun xs e => by rw [hL3] at e; cases e), [], upd_same, Nat.zero_le _, fun v hv => by cases hv⟩
    (fun i H' _ pp => ⟨pp.1 _ _ hD3 e1, ents_tups pp.2.1 e2⟩) (fun i x H7 H8 hi pp y => ?_) (fun H7 pp => ?_)
  · obtain ⟨rfl, pr, hpr, htx⟩ := y
    obtain ⟨k7, tu7, acc7, hacc7, hlen7, hall7⟩ := pp
    have hmt : pr.1 ∈ l.map (·.1) := List.mem_map.mpr ⟨pr, List.mem_of_getElem? hpr, rfl⟩
    have hmF := (hmem _).mp hmt
    have hd7 : TD w H8 D1 l := hd6.mono tu7 fun o e => k7 _ _ hD3 e
    refine ⟨rfl, _, rfl, _, rfl, D1, l, x, pr.1, rfl, hd7, htx, hFg.1 _ hmF, by have := hFg.2 _ hmF; omega, fun p8 H9 us9 k9 hp9 hn9 hus9 => ⟨p8, rfl, ⟨_, SqL.of hp9⟩, ?_⟩⟩
    have hp8 : p8 ≠ L3 := fun z => by subst z; rw [hacc7] at hn9; cases hn9
    have hul9 : us9.length = (openings (l.map (·.1)) pr.1).length := (Paired.length hus9).symm
    have ho2 := openings_len (l.map (·.1)) pr.1
    have hd9 := hd7.same k9
    refine lc2_in walk_list (fun j H' => SamX (fun b => b = L3) H9 H' ∧ Tups H9 H' ∧ ∃ acc, H' L3 = some (.lst acc) ∧ acc.length ≤ 2 * i + j ∧ ∀ v ∈ acc, v = .bl true) ⟨SamX.refl _ _, Tups.refl _, acc7, k9 _ _ hacc7, hlen7, hall7⟩
      (fun j H' _ pp => SqL.of (pp.1 _ _ hp8 hp9)) (fun j u Ha Hb hj pp y2 => ?_) (fun Ha pp => ?_)
    · obtain ⟨rfl, hy2⟩ := y2
      obtain ⟨ka, tua, acca, hacca, hlena, halla⟩ := pp
      obtain ⟨tu, htu⟩ : ∃ tu, (openings (l.map (·.1)) pr.1)[j]? = some tu := ⟨_, List.getElem?_eq_getElem (by omega)⟩
      obtain ⟨u', hu', htu'⟩ := paired_at hus9 htu
      have e : u' = u := by rw [hy2] at hu'; exact (Option.some.inj hu').symm
      subst e
      have hmo := List.mem_of_getElem? htu
      have hda : TD w Hb D1 l := hd9.mono tua fun o e => ka _ _ hD3 e
      have hin : tu ∈ l.map (·.1) := (hmem tu).mpr (hcl _ hmF _ (openings_mono (fun {a} hb => by rw [← built_same hmem a]; exact hb) hmo))
      refine ⟨rfl, _, rfl, _, rfl, D1, l, tu, rfl, hda, htu'.mono tua, by have := hFg.2 _ ((hmem tu).mp hin); omega, acca, hacca, lt_line (by omega), fun b o n e => (upd_ne n).trans (ka _ _ n e), tua.trans (tups_up (fun xs e => by rw [hacca] at e; cases e)), _, upd_same, by simp; omega, fun v hv => ?_⟩
      rcases List.mem_append.mp hv with hv | hv
      · exact halla v hv
      · rw [List.mem_singleton] at hv
        rw [hv, if_neg Bool.false_ne_true, decide_eq_true hin]
    · obtain ⟨ka, tua, acca, hacca, hlena, halla⟩ := pp
      exact ⟨k7.trans ((Same.x _ k9).trans ka), tu7.trans ((sTups k9).trans tua), acca, hacca, by omega, halla⟩
  · obtain ⟨k7, tu7, acc7, hacc7, hlen7, hall7⟩ := pp
    refine ⟨_, _, rfl, SqL.of (hacc7.trans (congrArg (fun z => some (HO.lst z)) (all_true hall7))), ?_⟩
    rw [all_id]
    exact q _ (k06.trans (same_new k7 hL3))
end
end
end Kt
/-! The walks: checks. -/
namespace Kt
open PySem PySem.Spec PyProof.Rows L2
open Tm
section
variable {P : Program} {w : World} {K : PySem.W.Frag} {mg : PySem.Str → Option Value} {base : Heap}
/-! ### recipes in the heap -/
theorem str_ok {x : PySem.Str} (h : NameOk x) : (PyData.str x).canLay0 = true := by
  show x.cps.all (· < 0x110000) = true
  rw [← Array.all_toList, List.all_eq_true]
  intro c hc
  have := h.2.2 c hc
  exact decide_eq_true (by have := this.2; omega)
theorem word_ok1 (g : G1) : (PyData.str g.s).canLay0 = true := by cases g <;> decide +kernel
theorem word_ok2 (g : G2) : (PyData.str g.s).canLay0 = true := by cases g <;> decide +kernel
theorem dat_ok : ∀ {t : Tm}, WF NameOk t → (dat t).canLay0 = true ∧ (dat t).depth + 1 = t.depth
  | .nm x, hw => ⟨str_ok hw, rfl⟩
  | .un g a, hw => by
    obtain ⟨h1, h2⟩ := dat_ok (WF.kid hw (show a ∈ (Tm.un g a).kids by simp [Tm.kids]))
    refine ⟨?_, ?_⟩
    · show (PyData.canLay0 (.str g.s) && (PyData.canLay0 (dat a) && true)) = true
      rw [word_ok1, h1]; rfl
    · show max (PyData.depth (.str g.s)) (max (dat a).depth 0) + 1 + 1 = a.depth + 1
      have e : PyData.depth (.str g.s) = 0 := rfl
      rw [e]; omega
  | .bi g a b, hw => by
    obtain ⟨h1, h2⟩ := dat_ok (WF.kid hw (show a ∈ (Tm.bi g a b).kids by simp [Tm.kids]))
    obtain ⟨h3, h4⟩ := dat_ok (WF.kid hw (show b ∈ (Tm.bi g a b).kids by simp [Tm.kids]))
    refine ⟨?_, ?_⟩
    · show (PyData.canLay0 (.str g.s) && (PyData.canLay0 (dat a) && (PyData.canLay0 (dat b) && true))) = true
      rw [word_ok2, h1, h3]; rfl
    · show max (PyData.depth (.str g.s)) (max (dat a).depth (max (dat b).depth 0)) + 1 + 1 = max a.depth b.depth + 1
      have e : PyData.depth (.str g.s) = 0 := rfl
      rw [e]; omega
theorem dat_shaped {t : Tm} (hw : WF NameOk t) (h : t.depth ≤ 60) : SeqAt.shaped (dat t) = true := by
  obtain ⟨h1, h2⟩ := dat_ok hw
  unfold SeqAt.shaped
  rw [h1, decide_eq_true (by omega)]
  rfl
/-- a step in the heap -/
def StV (H : Hp) (s : Step) (v : V) : Prop := ∃ p, v = .ref p ∧ H p = some (.tup (.str s.1.s :: s.2.map fun a => V.int (a : Nat)))
theorem StV.mono {H H' : Hp} (k : Tups H H') {s : Step} {v : V} (h : StV H s v) : StV H' s v := by
  obtain ⟨p, e, hp⟩ := h
  exact ⟨p, e, k _ _ hp⟩
abbrev StVs (H : Hp) : List Step → List V → Prop := Paired (StV H)
theorem StVs.mono {H H' : Hp} (k : Tups H H') {ss : List Step} {vs : List V} (h : StVs H ss vs) : StVs H' ss vs := Paired.mapP h fun _ _ q => q.mono k
def Op.ar : Op → Nat
  | .unbox => 2
  | .unshut => 2
  | .bi _ => 2
  | _ => 1
theorem Op.ar_le (o : Op) : o.ar ≤ 2 := by cases o <;> simp [Op.ar]
def StepOk (s : Step) (n : Nat) : Prop := s.2.length = s.1.ar ∧ (s.1 ≠ .heard → ∀ a ∈ s.2, a < n)
theorem Pl.ok {row W : List Tm} {s : Step} {t : Tm} (h : Pl row W s t) : StepOk s W.length := by
  have h1 := h.args_lt
  refine ⟨?_, fun hn a ha => h1 a ?_⟩
  · cases h <;> rfl
  · obtain ⟨o, l⟩ := s
    cases o <;> first | exact (hn rfl).elim | exact ha
theorem Op.arity (o : Op) (h : o ≠ .heard) : (o.s, (o.ar : Int)) ∈ ([("pair", 2), ("box", 2), ("half", 1), ("shut", 2), ("mark", 2), ("mix", 1), ("left", 1), ("right", 1), ("unbox", 2), ("unshut", 2), ("read", 1), ("check", 2)] : List (PySem.Str × Int)) := by
  cases o with
  | heard => exact (h rfl).elim
  | left => decide +kernel
  | right => decide +kernel
  | unbox => decide +kernel
  | unshut => decide +kernel
  | read => decide +kernel
  | un g => cases g <;> decide +kernel
  | bi g => cases g <;> decide +kernel
theorem Op.heardS (o : Op) : decide (V.str o.s = V.str "heard") = decide (o = .heard) := by
  refine eqS ?_
  cases o with
  | heard => decide +kernel
  | left => decide +kernel
  | right => decide +kernel
  | unbox => decide +kernel
  | unshut => decide +kernel
  | read => decide +kernel
  | un g => cases g <;> decide +kernel
  | bi g => cases g <;> decide +kernel
abbrev N_is_recipe_step : List PySem.Str := ["thing", "at", "number"]
abbrev P_is_recipe_step : List PySem.Str := ["thing", "at"]
theorem sc_is_recipe_step : FnScope N_is_recipe_step P_is_recipe_step (defScope s_is_recipe_step) := ⟨rfl, rfl, rfl, by decide +kernel, rfl, by decide +kernel, by decide +kernel⟩
def sp_is_recipe_step : Sp := fun vs H Q _ => ∃ (v : V) (n : Nat) (s : Step), vs = [v, .int n] ∧ StV H s v ∧ StepOk s n ∧ ∀ H', Same H H' → Q (.bl true) H'
theorem c_is_recipe_step (D : Dfn K mg "is_recipe_step" s_is_recipe_step) (T : Gs K mg w) (c_is_integer : C8.Cal P w K mg base 1 "is_integer" sp_is_integer []) (c_is_between : C8.Cal P w K mg base 2 "is_between" sp_is_between []) : C8.Cal P w K mg base 3 "is_recipe_step" sp_is_recipe_step [] := by
  have sc := sc_is_recipe_step
  obtain ⟨aARITIES, esA, nA, gARITIES, dARITIES, hA⟩ := T.ARITIES
  refine mkCal D (fun _ _ _ _ _ _ us hl => match us, hl with | [_, _], _ => rfl) sc (fun vs H Q E h => by obtain ⟨v, n, s, rfl, _⟩ := h; rfl) fun cdv A outer s H vs Q E ff hr h => ?_
  obtain ⟨v, n, st, rfl, ⟨p, rfl, hp⟩, ⟨hlen, hlt⟩, q⟩ := h
  have hsl : (V.str st.1.s :: st.2.map fun a => V.int (a : Nat)).length = st.1.ar + 1 := by simp [hlen]
  refine ⟨_, (pss_cons (ps_if (PW.pt (pw_or (pt_not (pt_val (pe_callB (call_isK .tup) rfl T.isinstance (by decide +kernel) (pa_cons (pv 0) (pa_cons (pe_kn .tup rfl T.tuple) pa_nil))))) (pw_or (pt_cmpR op_eq (pe_callB call_len_seq rfl T.len (by decide +kernel) (pa_cons (pv 0) pa_nil)) pe_int (nomark _)) (pw_or1 (pt_not (pt_val (pe_callB (call_isK .str) rfl T.isinstance (by decide +kernel) (pa_cons (pe_ix ix_tup (pv 0) pe_int (fun _ _ => rfl)) (pa_cons (pe_kn .str rfl T.str) pa_nil))))))))) (pss_one (ps_ret pe_bl)) pss_nil) (pss_cons (ps_if (pt_cmpR op_eq (pe_ix ix_tup (pv 0) pe_int (fun _ _ => rfl)) (C8.pe_gc rfl T.HEARD) (nomark _)) (pss_one (ps_ret (pe_and (pe_cmpR op_eq (pe_callB call_len_seq rfl T.len (by decide +kernel) (pa_cons (pv 0) pa_nil)) pe_int (nomark _)) (pe_and (C8.pe_c c_is_integer hr (by first | decide | omega) rfl (pa_cons (pe_ix ix_tup (pv 0) pe_int (fun _ _ => rfl)) pa_nil)) (pe_one (pe_cmpR op_ge (pe_ix ix_tup (pv 0) pe_int (fun _ _ => rfl)) pe_int (nomark _))))))) pss_nil) (pss_cons (ps_if (PW.pt (pw_or (pt_cmpR (op_notIn_kd dARITIES) (pe_ix ix_tup (pv 0) pe_int (fun _ _ => rfl)) (C8.pe_gc rfl gARITIES) rfl) (pw_or1 (pt_cmpR op_ne (pe_callB call_len_seq rfl T.len (by decide +kernel) (pa_cons (pv 0) pa_nil)) (pe_op op_add pe_int (pe_ix ix_kdict (C8.pe_gc rfl gARITIES) (pe_ix ix_tup (pv 0) pe_int (fun _ _ => rfl)) (fun _ _ => rfl))) (nomark _))))) (pss_one (ps_ret pe_bl)) pss_nil) (pss_one (ps_ret (pe_callB (cr_all rfl) rfl T.all (by decide +kernel) (pa_cons (pe_lc (own := [("number", 2)]) (g := gName 2) (tt := tYes) rfl sc.nd (pi_tup (pe_slice sl_tup (pv 0) (po_some pe_int) po_no)) (blkOk_by (N := N_is_recipe_step) (sc := defScope s_is_recipe_step) (by decide +kernel)) (fun _ _ _ _ _ => (pg_name (i := 2) sc.nd rfl (Or.inl rfl))) (fun _ _ _ _ _ => pts_nil) (fun _ _ _ _ _ => (C8.pe_c c_is_between hr (by first | decide | omega) rfl (pa_cons (pv 2) (pa_cons pe_int (pa_cons (pe_op op_sub (pv 1) pe_int) pa_nil)))))) pa_nil))))))), ?_⟩
  refine ⟨_, rfl, rfl, _, .tup hp, _, rfl, iteF ⟨_, rfl, _, _, rfl, .inr (SqT.of hp), rfl, _, rfl, ifF (decide_eq_false fun z => by injection z with z; rw [hsl] at z; omega) ⟨_, rfl, _, _, _, _, rfl, rfl, SqT.of (hp), at0, rfl, _, .str _, _, rfl, iteF ⟨_, rfl, _, _, _, _, rfl, rfl, SqT.of (hp), at0, rfl, _, rfl, ?_⟩⟩⟩⟩
  rw [Op.heardS]
  by_cases ho : st.1 = .heard
  · refine ifT (decide_eq_true ho) ?_
    have har : st.2.length = 1 := by rw [hlen, ho]; rfl
    obtain ⟨i, hi⟩ : ∃ i, st.2 = [i] := by
      match h2 : st.2, har with
      | [i], _ => exact ⟨i, rfl⟩
    rw [hi] at hp
    refine ⟨_, rfl, _, _, rfl, .inr (SqT.of hp), rfl, _, rfl, ifT (decide_eq_true rfl) ⟨_, rfl, _, _, _, _, rfl, rfl, SqT.of (hp), at1, _, .int, rfl, .int _, _, rfl, iteT ⟨_, rfl, _, _, _, _, rfl, rfl, SqT.of (hp), at1, _, _, rfl, rfl, ?_⟩⟩⟩
    show Q (.bl (decide ((0 : Int) ≤ (i : Nat)))) H
    rw [decide_eq_true (by omega)]
    exact q H (Same.refl _)
  · refine ifF (decide_eq_false ho) ?_
    obtain ⟨u, hu1, hu2⟩ := hA _ _ (Op.arity st.1 ho)
    refine ⟨_, rfl, _, _, _, _, rfl, rfl, SqT.of (hp), at0, _, _, rfl, rfl, hu1, _, rfl, iteF ⟨_, rfl, _, _, rfl, .inr (SqT.of hp), _, rfl, _, _, _, _, rfl, rfl, SqT.of (hp), at0, _, _, _, rfl, rfl, ⟨_, _, u, dARITIES.1, dARITIES.2, hu1, hu2⟩, _, _, rfl, rfl, rfl, _, rfl, ifF ?_ ⟨_, rfl, _, rfl, ?_⟩⟩⟩
    · rw [decide_eq_true (congrArg V.int (by rw [hsl]; omega))]
      rfl
    refine sl1 (K := K) (a := .str st.1.s) (SqT.of hp) fun p' hp' => ?_
    refine ⟨p', rfl, ⟨_, SqT.of upd_same⟩, fun L hL => lc_map walk_tup (fun _ _ v => v = .bl true) (lt_line (by rw [List.length_map, hlen]; have := Op.ar_le st.1; omega)) hL (fun _ _ _ _ _ e => e) (fun H3 k => SqT.of (k _ _ upd_same)) (fun i y H3 H4 N hi k y1 n' => ?_) (fun H3 acc k3 hacc hl hr' => ?_)⟩
    · obtain ⟨rfl, hy⟩ := y1
      rw [List.getElem?_map] at hy
      cases ha : st.2[i]? with
      | none => rw [ha] at hy; cases hy
      | some a =>
        rw [ha] at hy
        cases hy
        have h1 := hlt ho a (List.mem_of_getElem? ha)
        exact ⟨rfl, _, rfl, _, rfl, _, _, rfl, rfl, _, _, _, rfl, by omega, by omega, n' _ _ (Same.refl _) rfl⟩
    · have e1 := all_true (acc := acc) fun v hv => by
        obtain ⟨i, hi⟩ := List.getElem?_of_mem hv
        exact hr' i v hi
      refine ⟨_, _, rfl, SqL.of (hacc.trans (congrArg (fun z => some (HO.lst z)) e1)), ?_⟩
      rw [all_id]
      exact q _ ((sUp hp').trans k3)
/-- a recipe in the heap -/
def RecV (H : Hp) (S : List Step) (v : V) : Prop := ∃ p us, v = .ref p ∧ H p = some (.tup us) ∧ StVs H S us
def StepsOk (S : List Step) : Prop := ∀ (i : Nat) (s : Step), S[i]? = some s → StepOk s i
theorem Runs.ok {row : List Tm} {S : List Step} {W : List Tm} (h : Runs row S W) : StepsOk S := fun i s hs => by
  obtain ⟨t, h1, h2⟩ := h.at hs
  have := h2.ok
  have hi := (List.getElem?_eq_some_iff.mp h1).1
  rw [List.length_take, Nat.min_eq_left (by omega)] at this
  exact this
abbrev N_is_recipe : List PySem.Str := ["thing", "at", "step"]
abbrev P_is_recipe : List PySem.Str := ["thing"]
theorem sc_is_recipe : FnScope N_is_recipe P_is_recipe (defScope s_is_recipe) := ⟨rfl, rfl, rfl, by decide +kernel, rfl, by decide +kernel, by decide +kernel⟩
def sp_is_recipe : Sp := fun vs H Q _ => ∃ v S, vs = [v] ∧ RecV H S v ∧ 1 ≤ S.length ∧ S.length ≤ 60000 ∧ StepsOk S ∧ ∀ H', Same H H' → Q (.bl true) H'
theorem c_is_recipe (D : Dfn K mg "is_recipe" s_is_recipe) (T : Gs K mg w) (c_is_recipe_step : C8.Cal P w K mg base 3 "is_recipe_step" sp_is_recipe_step []) : C8.Cal P w K mg base 4 "is_recipe" sp_is_recipe [] := by
  have sc := sc_is_recipe
  refine mkCal D (fun _ _ _ _ _ _ us hl => match us, hl with | [_], _ => rfl) sc (fun vs H Q E h => by obtain ⟨v, S, rfl, _⟩ := h; rfl) fun cdv A outer s H vs Q E ff hr h => ?_
  obtain ⟨v, S, rfl, ⟨p, us, rfl, hp, hus⟩, h1, h2, hok, q⟩ := h
  have hul : us.length = S.length := (Paired.length hus).symm
  refine ⟨_, (pss_cons (ps_if (PW.pt (pw_or (pt_not (pt_val (pe_callB (call_isK .tup) rfl T.isinstance (by decide +kernel) (pa_cons (pv 0) (pa_cons (pe_kn .tup rfl T.tuple) pa_nil))))) (pw_or1 (pt_not (pt_chain op_le op_le pe_int (pe_callB call_len_seq rfl T.len (by decide +kernel) (pa_cons (pv 0) pa_nil)) (C8.pe_gc rfl T.MOST_STEPS)))))) (pss_one (ps_ret pe_bl)) pss_nil) (pss_one (ps_ret (pe_callB (cr_all rfl) rfl T.all (by decide +kernel) (pa_cons (pe_lc (own := [("at", 1), ("step", 2)]) (g := gTup K 2 (gCons (gName 1) (gCons (gName 2) gNil))) (tt := tYes) rfl sc.nd (pi_enumT rfl T.enumerate (pa_cons (pv 0) pa_nil)) (blkOk_by (N := N_is_recipe) (sc := defScope s_is_recipe) (by decide +kernel)) (fun _ _ _ _ _ => (pg_tup rfl (pgs_cons (pg_name (i := 1) sc.nd rfl (Or.inl rfl)) (pgs_cons (pg_name (i := 2) sc.nd rfl (Or.inl rfl)) pgs_nil)))) (fun _ _ _ _ _ => pts_nil) (fun _ _ _ _ _ => (C8.pe_c c_is_recipe_step hr (by first | decide | omega) rfl (pa_cons (pv 2) (pa_cons (pv 1) pa_nil))))) pa_nil))))), ?_⟩
  refine ⟨_, rfl, rfl, _, .tup hp, _, rfl, iteF ⟨_, rfl, _, _, rfl, .inr (SqT.of hp), _, _, rfl, rfl, _, rfl, ifT (decide_eq_true (by omega)) ⟨_, _, rfl, rfl, _, rfl, ifF (by rw [decide_eq_true (show (us.length : Int) ≤ 60000 by omega)]; rfl) ?_⟩⟩⟩
  refine ⟨_, rfl, p, us, rfl, SqT.of hp, fun L hL => lc_map walk_enumT (fun _ _ v => v = .bl true) (lt_line (by omega)) hL (fun _ _ _ _ _ e => e) (fun H3 k => SqT.of (k _ _ hp)) (fun i y H3 H4 N hi k y1 n' => ?_) (fun H3 acc k3 hacc hl hr' => ?_)⟩
  · obtain ⟨TT, x1, x2, rfl, hT, rfl, e1, e2⟩ := y1
    have e2 : us[i]? = some x2 := e2
    cases e1
    obtain ⟨st, hst⟩ : ∃ st, S[i]? = some st := ⟨_, List.getElem?_eq_getElem (by omega)⟩
    obtain ⟨x', hx', htx⟩ := paired_at hus hst
    have e : x' = x2 := by rw [e2] at hx'; exact (Option.some.inj hx').symm
    subst e
    exact ⟨_, _, rfl, SqT.of upd_same, rfl, _, _, rfl, _, _, rfl, rfl, rfl, _, rfl, _, rfl, x', i, st, rfl, htx.mono (sTups (k.trans (sUp hT))), hok i st hst, fun H' k' => n' _ _ ((sUp hT).trans k') rfl⟩
  · have e1 := all_true (acc := acc) fun v hv => by
      obtain ⟨i, hi⟩ := List.getElem?_of_mem hv
      exact hr' i v hi
    refine ⟨_, _, rfl, SqL.of (hacc.trans (congrArg (fun z => some (HO.lst z)) e1)), ?_⟩
    rw [all_id]
    exact q _ k3
abbrev N_check_recipe : List PySem.Str := ["recipe"]
abbrev P_check_recipe : List PySem.Str := ["recipe"]
theorem sc_check_recipe : FnScope N_check_recipe P_check_recipe (defScope s_check_recipe) := ⟨rfl, rfl, rfl, by decide +kernel, rfl, by decide +kernel, by decide +kernel⟩
def sp_check_recipe : Sp := fun vs H Q _ => ∃ v S, vs = [v] ∧ RecV H S v ∧ 1 ≤ S.length ∧ S.length ≤ 60000 ∧ StepsOk S ∧ ∀ H', Same H H' → Q .non H'
theorem c_check_recipe (D : Dfn K mg "check_recipe" s_check_recipe) (T : Gs K mg w) (c_is_recipe : C8.Cal P w K mg base 4 "is_recipe" sp_is_recipe []) : C8.Cal P w K mg base 5 "check_recipe" sp_check_recipe [] := by
  have sc := sc_check_recipe
  refine mkCal D (fun _ _ _ _ _ _ us hl => match us, hl with | [_], _ => rfl) sc (fun vs H Q E h => by obtain ⟨v, S, rfl, _⟩ := h; rfl) fun cdv A outer s H vs Q E ff hr h => ?_
  obtain ⟨v, S, rfl, hR, h1, h2, hok, q⟩ := h
  refine ⟨_, (pss_one (ps_if (pt_not (pt_val (C8.pe_c c_is_recipe hr (by first | decide | omega) rfl (pa_cons (pv 0) pa_nil)))) (pss_one ps_never) pss_nil)), ?_⟩
  exact ⟨_, rfl, v, S, rfl, hR, h1, h2, hok, fun H' k => ⟨_, rfl, iteF (q _ k)⟩⟩
end
end Kt
/-! The walks: checks. -/
namespace Kt
open PySem PySem.Spec PyProof.Rows L2
open Tm
section
variable {P : Program} {w : World} {K : PySem.W.Frag} {mg : PySem.Str → Option Value} {base : Heap}
/-! ### playing -/
/-- what an operation makes of terms -/
inductive Dn : Op → List Tm → Tm → Prop
  | left {t u} : Dn .left [.bi .pair t u] t
  | right {t u} : Dn .right [.bi .pair t u] u
  | read {n t} : Dn .read [.bi .mark n t] t
  | unbox {k t} : Dn .unbox [.bi .box k t, k] t
  | unshut {k t} : Dn .unshut [.bi .shut k t, k] t
  | pair {t u} : Dn (.bi .pair) [t, u] (.bi .pair t u)
  | box {t u} : Dn (.bi .box) [t, u] (.bi .box t u)
  | mark {x u} : Dn (.bi .mark) [.nm x, u] (.bi .mark (.nm x) u)
  | shut {x u} : Dn (.bi .shut) [.un .half (.nm x), u] (.bi .shut (.nm x) u)
  | half {x} : Dn (.un .half) [.nm x] (.un .half (.nm x))
  | mix {t} : Dn (.un .mix) [t] (.un .mix t)
theorem pl_dn {row W : List Tm} {s : Step} {t : Tm} (h : Pl row W s t) (ho : s.1 ≠ .heard) : ∃ As, Dn s.1 As t ∧ Paired (fun a u => W[a]? = some u) s.2 As := by
  cases h with
  | heard h => exact (ho rfl).elim
  | left h => exact ⟨_, .left, .cons h .nil⟩
  | right h => exact ⟨_, .right, .cons h .nil⟩
  | read h => exact ⟨_, .read, .cons h .nil⟩
  | unbox h h' => exact ⟨_, .unbox, .cons h (.cons h' .nil)⟩
  | unshut h h' => exact ⟨_, .unshut, .cons h (.cons h' .nil)⟩
  | pair h h' => exact ⟨_, .pair, .cons h (.cons h' .nil)⟩
  | box h h' => exact ⟨_, .box, .cons h (.cons h' .nil)⟩
  | mark h h' => exact ⟨_, .mark, .cons h (.cons h' .nil)⟩
  | shut h h' => exact ⟨_, .shut, .cons h (.cons h' .nil)⟩
  | half h => exact ⟨_, .half, .cons h .nil⟩
  | mix h => exact ⟨_, .mix, .cons h .nil⟩
def Op.opens : Op → Bool
  | .un _ => false
  | .bi _ => false
  | .heard => false
  | _ => true
abbrev N_opened_term : List PySem.Str := ["word", "terms", "first", "kind"]
abbrev P_opened_term : List PySem.Str := ["word", "terms"]
theorem sc_opened_term : FnScope N_opened_term P_opened_term (defScope s_opened_term) := ⟨rfl, rfl, rfl, by decide +kernel, rfl, by decide +kernel, by decide +kernel⟩
def sp_opened_term : Sp := fun vs H Q _ => ∃ o As t a us, vs = [.str (Op.s o), .ref a] ∧ H a = some (.lst us) ∧ TmVs H As us ∧ Dn o As t ∧ o.opens = true ∧ Good As ∧ ∀ v H', Same H H' → TmV H' t v → Q v H'
theorem c_opened_term (D : Dfn K mg "opened_term" s_opened_term) (T : Gs K mg w) : C8.Cal P w K mg base 1 "opened_term" sp_opened_term [] := by
  have sc := sc_opened_term
  refine mkCal D (fun _ _ _ _ _ _ us hl => match us, hl with | [_, _], _ => rfl) sc (fun vs H Q E h => by obtain ⟨o, As, t, a, us, rfl, _⟩ := h; rfl) fun cdv A outer s H vs Q E ff hr h => ?_
  obtain ⟨o, As, t, a, us, rfl, ha, hus, hdn, hop, hg, q⟩ := h
  refine ⟨_, (pss_cons (ps_set (i := 2) sc.nd rfl (Or.inl rfl) (pe_ix ix_list (pv 1) pe_int (fun _ _ => rfl))) (pss_cons (ps_if (pt_val (pe_callB (call_isK .str) rfl T.isinstance (by decide +kernel) (pa_cons (pv 2) (pa_cons (pe_kn .str rfl T.str) pa_nil)))) (pss_one (ps_ret pe_non)) pss_nil) (pss_cons (ps_if (pt_cmpR op_in_seq (pv 0) (pe_tup (pa_cons (C8.pe_gc rfl T.LEFT) (pa_cons (C8.pe_gc rfl T.RIGHT) pa_nil))) rfl) (pss_one (ps_ret (pe_ifExp (pt_cmpR op_eq (pe_ix ix_tup (pv 2) pe_int (fun _ _ => rfl)) (C8.pe_gc rfl T.PAIR) (nomark _)) (pe_ix ix_tup (pv 2) (pe_op op_add pe_int (pe_callTy call_int1 rfl T.int (by decide +kernel) (pa_cons (pe_cmpR op_eq (pv 0) (C8.pe_gc rfl T.RIGHT) (nomark _)) pa_nil))) (fun _ _ => rfl)) pe_non))) pss_nil) (pss_cons (ps_if (pt_cmpR op_eq (pv 0) (C8.pe_gc rfl T.READ) (nomark _)) (pss_one (ps_ret (pe_ifExp (pt_cmpR op_eq (pe_ix ix_tup (pv 2) pe_int (fun _ _ => rfl)) (C8.pe_gc rfl T.MARK) (nomark _)) (pe_ix ix_tup (pv 2) pe_int (fun _ _ => rfl)) pe_non))) pss_nil) (pss_cons (ps_if (pt_cmpR op_eq (pv 0) (C8.pe_gc rfl T.CHECK) (nomark _)) (pss_one ps_never) pss_nil) (pss_cons (ps_set (i := 3) sc.nd rfl (Or.inl rfl) (pe_ifExp (pt_cmpR op_eq (pv 0) (C8.pe_gc rfl T.UNBOX) (nomark _)) (C8.pe_gc rfl T.BOX) (C8.pe_gc rfl T.SHUT))) (pss_one (ps_ret (pe_ifExp (PW.pt (pw_and (pt_cmpR op_eq (pe_ix ix_tup (pv 2) pe_int (fun _ _ => rfl)) (pv 3) (nomark _)) (pw_and1 (pt_cmpR (op_eqD hr.units) (pe_ix ix_tup (pv 2) pe_int (fun _ _ => rfl)) (pe_ix ix_list (pv 1) pe_int (fun _ _ => rfl)) (nomark _))))) (pe_ix ix_tup (pv 2) pe_int (fun _ _ => rfl)) pe_non))))))))), ?_⟩
  cases hdn with
  | pair => cases hop
  | box => cases hop
  | mark => cases hop
  | shut => cases hop
  | half => cases hop
  | mix => cases hop
  | @left _ u =>
    cases hus with
    | cons h1 h2 =>
    cases h2
    obtain ⟨p, va, vb, rfl, hp, hva, hvb⟩ := h1
    refine ⟨_, rfl, _, _, _, _, rfl, rfl, SqL.of (ha), at0, _, rfl, rfl, _, .tup hp, _, rfl, iteF ⟨_, rfl, by show 2 ≤ sizeLine; decide, fun p1 hp1 => ⟨p1, _, rfl, .inr (SqT.of upd_same), rfl, rfl, _, rfl, ifT (by decide +kernel) ?_⟩⟩⟩
    have hp2 := sUp (o := .tup [V.str "left", V.str "right"]) hp1 _ _ hp
    exact ⟨_, rfl, _, _, _, _, rfl, rfl, SqT.of (hp2), at0, rfl, _, rfl, ifT (eqS (by decide +kernel)) ⟨_, rfl, _, rfl, rfl, .inr ⟨false, congrArg (fun b => [V.bl b]) (eqS (by decide +kernel)), _, _, rfl, rfl, _, _, _, _, rfl, rfl, SqT.of hp2, at1, q _ _ (sUp hp1) (hva.same (sUp hp1))⟩⟩⟩
  | @right t0 _ =>
    cases hus with
    | cons h1 h2 =>
    cases h2
    obtain ⟨p, va, vb, rfl, hp, hva, hvb⟩ := h1
    refine ⟨_, rfl, _, _, _, _, rfl, rfl, SqL.of (ha), at0, _, rfl, rfl, _, .tup hp, _, rfl, iteF ⟨_, rfl, by show 2 ≤ sizeLine; decide, fun p1 hp1 => ⟨p1, _, rfl, .inr (SqT.of upd_same), rfl, rfl, _, rfl, ifT (by decide +kernel) ?_⟩⟩⟩
    have hp2 := sUp (o := .tup [V.str "left", V.str "right"]) hp1 _ _ hp
    exact ⟨_, rfl, _, _, _, _, rfl, rfl, SqT.of (hp2), at0, rfl, _, rfl, ifT (eqS (by decide +kernel)) ⟨_, rfl, _, rfl, rfl, .inr ⟨true, congrArg (fun b => [V.bl b]) (eqS (by decide +kernel)), _, _, rfl, rfl, _, _, _, _, rfl, rfl, SqT.of hp2, at2, q _ _ (sUp hp1) (hvb.same (sUp hp1))⟩⟩⟩
  | @read n _ =>
    cases hus with
    | cons h1 h2 =>
    cases h2
    obtain ⟨p, va, vb, rfl, hp, hva, hvb⟩ := h1
    refine ⟨_, rfl, _, _, _, _, rfl, rfl, SqL.of (ha), at0, _, rfl, rfl, _, .tup hp, _, rfl, iteF ⟨_, rfl, by show 2 ≤ sizeLine; decide, fun p1 hp1 => ⟨p1, _, rfl, .inr (SqT.of upd_same), rfl, rfl, _, rfl, ifF (by decide +kernel) ?_⟩⟩⟩
    have hp2 := sUp (o := .tup [V.str "left", V.str "right"]) hp1 _ _ hp
    exact ⟨_, rfl, rfl, _, rfl, ifT (eqS (by decide +kernel)) ⟨_, rfl, _, _, _, _, rfl, rfl, SqT.of (hp2), at0, rfl, _, rfl, ifT (eqS (by decide +kernel)) ⟨_, rfl, _, _, _, _, rfl, rfl, SqT.of (hp2), at2, q _ _ (sUp hp1) (hvb.same (sUp hp1))⟩⟩⟩
  | @unbox k _ =>
    cases hus with
    | cons h1 h2 =>
    cases h2 with
    | cons h2 h3 =>
    cases h3
    obtain ⟨p, va, vb, rfl, hp, hva, hvb⟩ := h1
    refine ⟨_, rfl, _, _, _, _, rfl, rfl, SqL.of (ha), at0, _, rfl, rfl, _, .tup hp, _, rfl, iteF ⟨_, rfl, by show 2 ≤ sizeLine; decide, fun p1 hp1 => ⟨p1, _, rfl, .inr (SqT.of upd_same), rfl, rfl, _, rfl, ifF (by decide +kernel) ?_⟩⟩⟩
    have hp2 := sUp (o := .tup [V.str "left", V.str "right"]) hp1 _ _ hp
    have ha2 := sUp (o := .tup [V.str "left", V.str "right"]) hp1 _ _ ha
    have hwk := hg.1 k (by simp)
    have hsk := dat_shaped hwk (by have := hg.2 k (by simp); omega)
    refine ⟨_, rfl, rfl, _, rfl, ifF (eqS (by decide +kernel)) ⟨_, rfl, rfl, _, rfl, ifF (eqS (by decide +kernel)) ⟨_, rfl, rfl, _, rfl, ifT (eqS (by decide +kernel)) ⟨_, rfl, _, _, _, _, rfl, rfl, SqT.of (hp2), at0, _, rfl, rfl, _, rfl, ifT (eqS (by decide +kernel)) ⟨_, rfl, _, _, _, _, rfl, rfl, SqT.of (hp2), at1, _, rfl, _, _, _, _, rfl, rfl, SqL.of (ha2), at1, dat k, dat k, dp_tm (hva.same (sUp hp1)), dp_tm (TmV.same (sUp hp1) h2), hsk, hsk, _, rfl, ifT (SeqAt.eqv_refl _ (SeqAt.canLay_of_shaped hsk)) ⟨_, rfl, _, _, _, _, rfl, rfl, SqT.of (hp2), at2, q _ _ (sUp hp1) (hvb.same (sUp hp1))⟩⟩⟩⟩⟩⟩
  | @unshut k _ =>
    cases hus with
    | cons h1 h2 =>
    cases h2 with
    | cons h2 h3 =>
    cases h3
    obtain ⟨p, va, vb, rfl, hp, hva, hvb⟩ := h1
    refine ⟨_, rfl, _, _, _, _, rfl, rfl, SqL.of (ha), at0, _, rfl, rfl, _, .tup hp, _, rfl, iteF ⟨_, rfl, by show 2 ≤ sizeLine; decide, fun p1 hp1 => ⟨p1, _, rfl, .inr (SqT.of upd_same), rfl, rfl, _, rfl, ifF (by decide +kernel) ?_⟩⟩⟩
    have hp2 := sUp (o := .tup [V.str "left", V.str "right"]) hp1 _ _ hp
    have ha2 := sUp (o := .tup [V.str "left", V.str "right"]) hp1 _ _ ha
    have hwk := hg.1 k (by simp)
    have hsk := dat_shaped hwk (by have := hg.2 k (by simp); omega)
    refine ⟨_, rfl, rfl, _, rfl, ifF (eqS (by decide +kernel)) ⟨_, rfl, rfl, _, rfl, ifF (eqS (by decide +kernel)) ⟨_, rfl, rfl, _, rfl, ifF (eqS (by decide +kernel)) ⟨_, rfl, _, _, _, _, rfl, rfl, SqT.of (hp2), at0, _, rfl, rfl, _, rfl, ifT (eqS (by decide +kernel)) ⟨_, rfl, _, _, _, _, rfl, rfl, SqT.of (hp2), at1, _, rfl, _, _, _, _, rfl, rfl, SqL.of (ha2), at1, dat k, dat k, dp_tm (hva.same (sUp hp1)), dp_tm (TmV.same (sUp hp1) h2), hsk, hsk, _, rfl, ifT (SeqAt.eqv_refl _ (SeqAt.canLay_of_shaped hsk)) ⟨_, rfl, _, _, _, _, rfl, rfl, SqT.of (hp2), at2, q _ _ (sUp hp1) (hvb.same (sUp hp1))⟩⟩⟩⟩⟩⟩
theorem dn_good {o : Op} {As : List Tm} {t : Tm} (h : Dn o As t) (hop : o.opens = false) : t.hd = o.s ∧ t.isNm = false ∧ (o ≠ .bi .shut → As = t.kids) := by
  cases h with
  | left => cases hop
  | right => cases hop
  | read => cases hop
  | unbox => cases hop
  | unshut => cases hop
  | pair => exact ⟨rfl, rfl, fun _ => rfl⟩
  | box => exact ⟨rfl, rfl, fun _ => rfl⟩
  | mark => exact ⟨rfl, rfl, fun _ => rfl⟩
  | shut => exact ⟨rfl, rfl, fun h => (h rfl).elim⟩
  | half => exact ⟨rfl, rfl, fun _ => rfl⟩
  | mix => exact ⟨rfl, rfl, fun _ => rfl⟩
abbrev N_built_term : List PySem.Str := ["word", "terms", "term"]
abbrev P_built_term : List PySem.Str := ["word", "terms"]
theorem sc_built_term : FnScope N_built_term P_built_term (defScope s_built_term) := ⟨rfl, rfl, rfl, by decide +kernel, rfl, by decide +kernel, by decide +kernel⟩
def sp_built_term : Sp := fun vs H Q _ => ∃ o As t a us, vs = [.str (Op.s o), .ref a] ∧ H a = some (.lst us) ∧ TmVs H As us ∧ Dn o As t ∧ o.opens = false ∧ WF NameOk t ∧ t.depth ≤ 5 ∧ ∀ v H', Same H H' → TmV H' t v → Q v H'
theorem c_built_term (D : Dfn K mg "built_term" s_built_term) (T : Gs K mg w) (c_is_term : C8.Cal P w K mg base 10 "is_term" sp_is_term []) : C8.Cal P w K mg base 11 "built_term" sp_built_term [] := by
  have sc := sc_built_term
  refine mkCal D (fun _ _ _ _ _ _ us hl => match us, hl with | [_, _], _ => rfl) sc (fun vs H Q E h => by obtain ⟨o, As, t, a, us, rfl, _⟩ := h; rfl) fun cdv A outer s H vs Q E ff hr h => ?_
  obtain ⟨o, As, t, a, us, rfl, ha, hus, hdn, hop, hw, h5, q⟩ := h
  refine ⟨_, (C8.pss_cut (ps_if (PW.pt (pw_and (pt_cmpR op_in_seq (pv 0) (pe_tup (pa_cons (C8.pe_gc rfl T.HALF) (pa_cons (C8.pe_gc rfl T.MARK) pa_nil))) rfl) (pw_and1 (pt_not (pt_val (pe_callB (call_isK .str) rfl T.isinstance (by decide +kernel) (pa_cons (pe_ix ix_list (pv 1) pe_int (fun _ _ => rfl)) (pa_cons (pe_kn .str rfl T.str) pa_nil)))))))) (pss_one (ps_ret pe_non)) pss_nil) (C8.pss_cut (ps_if (pt_cmpR op_eq (pv 0) (C8.pe_gc rfl T.SHUT) (nomark _)) (pss_cons (ps_if (PW.pt (pw_or (pt_val (pe_callB (call_isK .str) rfl T.isinstance (by decide +kernel) (pa_cons (pe_ix ix_list (pv 1) pe_int (fun _ _ => rfl)) (pa_cons (pe_kn .str rfl T.str) pa_nil)))) (pw_or1 (pt_cmpR op_ne (pe_ix ix_tup (pe_ix ix_list (pv 1) pe_int (fun _ _ => rfl)) pe_int (fun _ _ => rfl)) (C8.pe_gc rfl T.HALF) (nomark _))))) (pss_one (ps_ret pe_non)) pss_nil) (pss_one (ps_set (i := 1) sc.nd rfl (Or.inl rfl) (pe_lst (pa_cons (pe_ix ix_tup (pe_ix ix_list (pv 1) pe_int (fun _ _ => rfl)) pe_int (fun _ _ => rfl)) (pa_cons (pe_ix ix_list (pv 1) pe_int (fun _ _ => rfl)) pa_nil)))))) pss_nil) (pss_cons (ps_set (i := 2) sc.nd rfl (Or.inl rfl) (pe_op op_catA (pe_tup (pa_cons (pv 0) pa_nil)) (pe_callTy call_tuple_of rfl T.tuple (by decide +kernel) (pa_cons (pv 1) pa_nil)))) (pss_one (ps_ret (pe_ifExp (pt_val (C8.pe_c c_is_term hr (by first | decide | omega) rfl (pa_cons (pv 2) pa_nil))) (pv 2) pe_non)))))), ?_⟩
  obtain ⟨hhd, hnn, hkid⟩ := dn_good hdn hop
  -- a name must stand first in some
  refine ⟨fun σ' H' => σ' = L2.start N_built_term [V.str o.s, .ref a] ∧ Same H H', ?_, fun σ' H1 m1 => ?_⟩
  · refine ⟨_, rfl, by show 2 ≤ sizeLine; decide, fun p1 hp1 => ⟨p1, _, rfl, .inr (SqT.of upd_same), rfl, rfl, _, rfl, ?_⟩⟩
    have ha1 := sUp (o := .tup [V.str "half", V.str "mark"]) hp1 _ _ ha
    cases hdn with
    | left => cases hop
    | right => cases hop
    | read => cases hop
    | unbox => cases hop
    | unshut => cases hop
    | pair => exact ifF (by decide +kernel) (iteF ⟨rfl, sUp hp1⟩)
    | box => exact ifF (by decide +kernel) (iteF ⟨rfl, sUp hp1⟩)
    | mix => exact ifF (by decide +kernel) (iteF ⟨rfl, sUp hp1⟩)
    | shut => exact ifF (by decide +kernel) (iteF ⟨rfl, sUp hp1⟩)
    | mark =>
      cases hus with
      | cons h1 h2 =>
      have h1 := tm_nm h1
      subst h1
      exact ifT (by decide +kernel) ⟨_, rfl, _, _, _, _, rfl, rfl, SqL.of (ha1), at0, rfl, _, .str _, _, rfl, iteF ⟨rfl, sUp hp1⟩⟩
    | half =>
      cases hus with
      | cons h1 h2 =>
      have h1 := tm_nm h1
      subst h1
      exact ifT (by decide +kernel) ⟨_, rfl, _, _, _, _, rfl, rfl, SqL.of (ha1), at0, rfl, _, .str _, _, rfl, iteF ⟨rfl, sUp hp1⟩⟩
  obtain ⟨rfl, k1⟩ := m1
  have ha1 := k1 _ _ ha
  have hus1 := TmVs.same k1 hus
  refine ⟨fun σ' H' => ∃ a' us', σ' = [some (V.str o.s), some (V.ref a'), none] ∧ Same H H' ∧ H' a' = some (.lst us') ∧ TmVs H' t.kids us', ?_, fun σ' H2 m2 => ?_⟩
  · cases hdn with
    | left => cases hop
    | right => cases hop
    | read => cases hop
    | unbox => cases hop
    | unshut => cases hop
    | pair => exact ⟨_, rfl, rfl, _, rfl, ifF (eqS (by decide +kernel)) ⟨a, us, rfl, k1, ha1, hus1⟩⟩
    | box => exact ⟨_, rfl, rfl, _, rfl, ifF (eqS (by decide +kernel)) ⟨a, us, rfl, k1, ha1, hus1⟩⟩
    | mix => exact ⟨_, rfl, rfl, _, rfl, ifF (eqS (by decide +kernel)) ⟨a, us, rfl, k1, ha1, hus1⟩⟩
    | mark => exact ⟨_, rfl, rfl, _, rfl, ifF (eqS (by decide +kernel)) ⟨a, us, rfl, k1, ha1, hus1⟩⟩
    | half => exact ⟨_, rfl, rfl, _, rfl, ifF (eqS (by decide +kernel)) ⟨a, us, rfl, k1, ha1, hus1⟩⟩
    | shut =>
      cases hus1 with
      | cons h1 h2 =>
      cases h2 with
      | cons h2 h3 =>
      cases h3
      obtain ⟨p, va, rfl, hp, hva⟩ := h1
      refine ⟨_, rfl, rfl, _, rfl, ifT (eqS (by decide +kernel)) ⟨_, rfl, _, _, _, _, rfl, rfl, SqL.of (ha1), at0, rfl, _, .tup hp, _, rfl, iteF ⟨_, rfl, _, _, _, _, rfl, rfl, SqL.of (ha1), at0, _, _, _, _, rfl, rfl, SqT.of (hp), at0, rfl, _, rfl, ifF ?_ ⟨_, rfl, _, _, _, _, rfl, rfl, SqL.of (ha1), at0, _, _, _, _, rfl, rfl, SqT.of (hp), at1, _, rfl, _, _, _, _, rfl, rfl, SqL.of (ha1), at1, by show 2 ≤ sizeLine; decide, fun p2 hp2 => ⟨p2, _, rfl, k1.trans (sUp hp2), upd_same, .cons (hva.same (sUp hp2)) (.cons (h2.same (sUp hp2)) .nil)⟩⟩⟩⟩⟩
      rw [show decide (V.str G1.half.s = V.str (Str.ofString "half")) = true from eqS (by decide +kernel)]
      rfl
  obtain ⟨a2, us2, rfl, k2, ha2, hus2⟩ := m2
  have hul : us2.length = t.kids.length := (Paired.length hus2).symm
  have hlen := kids_len hnn
  refine ⟨_, rfl, by show 1 ≤ sizeLine; decide, fun p3 hp3 => ⟨_, rfl, a2, us2, rfl, .inl ⟨SqL.of (sUp hp3 _ _ ha2), fun p4 hp4 => ⟨p3, p4, [V.str o.s], us2, rfl, rfl, SqT.of (sUp hp4 _ _ upd_same), SqT.of upd_same, le_line (by simp; omega), fun z => (by cases z), fun _ z => ?_, fun _ _ p5 hp5 => ?_⟩⟩⟩⟩
  · subst z
    simp at hul
    omega
  · have k5 := k2.trans ((sUp hp3).trans ((sUp hp4).trans (sUp (o := .tup ([V.str o.s] ++ us2)) hp5)))
    have htm : TmV (upd (upd (upd H2 p3 (.tup [V.str o.s])) p4 (.tup us2)) p5 (.tup ([V.str o.s] ++ us2))) t (.ref p5) := tm_of (ks := us2) (by rw [upd_same, hhd]; rfl) hnn (TmVs.same ((sUp hp3).trans ((sUp hp4).trans (sUp hp5))) hus2)
    exact ⟨_, rfl, .ref p5, t, rfl, htm, hw, h5, fun H6 k6 => ⟨_, rfl, iteT ⟨_, rfl, q _ _ (k5.trans k6) (htm.same k6)⟩⟩⟩
theorem paired_at' {α β : Type} {F : α → β → Prop} {l : List α} {m : List β} {i : Nat} {b : β} (h : Paired F l m) (hb : m[i]? = some b) : ∃ a, l[i]? = some a ∧ F a b := by
  have hl := Paired.length h
  have hi : i < l.length := by rw [hl]; exact (List.getElem?_eq_some_iff.mp hb).1
  obtain ⟨b', hb', hf⟩ := paired_at h (List.getElem?_eq_getElem hi)
  rw [hb] at hb'
  cases hb'
  exact ⟨_, List.getElem?_eq_getElem hi, hf⟩
theorem paired_app {α β : Type} {F : α → β → Prop} : ∀ {l l' : List α} {m m' : List β}, Paired F l m → Paired F l' m' → Paired F (l ++ l') (m ++ m')
  | [], _, [], _, _, h => h
  | _ :: _, _, _ :: _, _, .cons h1 h2, h => .cons h1 (paired_app h2 h)
abbrev N_played_step : List PySem.Str := ["hearing", "step", "terms", "chosen", "number"]
abbrev P_played_step : List PySem.Str := ["hearing", "step", "terms"]
theorem sc_played_step : FnScope N_played_step P_played_step (defScope s_played_step) := ⟨rfl, rfl, rfl, by decide +kernel, rfl, by decide +kernel, by decide +kernel⟩
theorem opens_in (o : Op) (ho : o ≠ .heard) : inV (.str o.s) [.str "left", .str "right", .str "unbox", .str "unshut", .str "read", .str "check"] = o.opens := by
  cases o with
  | heard => exact (ho rfl).elim
  | left => decide +kernel
  | right => decide +kernel
  | unbox => decide +kernel
  | unshut => decide +kernel
  | read => decide +kernel
  | un g => cases g <;> decide +kernel
  | bi g => cases g <;> decide +kernel
def sp_played_step : Sp := fun vs H Q _ => ∃ p hs us0 v s a W us t, vs = [.ref p, v, .ref a] ∧ H p = some (.tup us0) ∧ TmVs H hs us0 ∧ StV H s v ∧ H a = some (.lst us) ∧ TmVs H W us ∧ Pl hs W s t ∧ Good W ∧ WF NameOk t ∧ t.depth ≤ 5 ∧ ∀ v H', Same H H' → TmV H' t v → Q v H'
theorem c_played_step (D : Dfn K mg "played_step" s_played_step) (T : Gs K mg w) (c_opened_term : C8.Cal P w K mg base 1 "opened_term" sp_opened_term []) (c_built_term : C8.Cal P w K mg base 11 "built_term" sp_built_term []) : C8.Cal P w K mg base 12 "played_step" sp_played_step [] := by
  have sc := sc_played_step
  refine mkCal D (fun _ _ _ _ _ _ us hl => match us, hl with | [_, _, _], _ => rfl) sc (fun vs H Q E h => by obtain ⟨p, hs, us0, v, s, a, W, us, t, rfl, _⟩ := h; rfl) fun cdv A outer s H vs Q E ff hr h => ?_
  obtain ⟨p, hs, us0, v, st, a, W, us, t, rfl, hp, hus0, ⟨ps, rfl, hps⟩, ha, hus, hpl, hg, hw, h5, q⟩ := h
  have hul0 : us0.length = hs.length := (Paired.length hus0).symm
  have hul : us.length = W.length := (Paired.length hus).symm
  refine ⟨_, (pss_cons (ps_if (pt_cmpR op_eq (pe_ix ix_tup (pv 1) pe_int (fun _ _ => rfl)) (C8.pe_gc rfl T.HEARD) (nomark _)) (pss_one (ps_ret (pe_ifExp (pt_cmpR op_lt (pe_ix ix_tup (pv 1) pe_int (fun _ _ => rfl)) (pe_callB call_len_seq rfl T.len (by decide +kernel) (pa_cons (pv 0) pa_nil)) (nomark _)) (pe_ix ix_tup (pv 0) (pe_ix ix_tup (pv 1) pe_int (fun _ _ => rfl)) (fun _ _ => rfl)) pe_non))) pss_nil) (C8.pss_cut (ps_setLc (i := 3) (own := [("number", 4)]) (g := gName 4) (tt := tYes) rfl sc.nd rfl rfl (sw_true rfl rfl rfl (by decide +kernel)) (pi_tup (pe_slice sl_tup (pv 1) (po_some pe_int) po_no)) (blkOk_by (N := N_played_step) (sc := defScope s_played_step) (by decide +kernel)) (fun _ _ _ _ _ => (pg_name (i := 4) sc.nd rfl (Or.inl rfl))) (fun _ _ _ _ _ => pts_nil) (fun _ _ _ _ _ => (pe_ix (show IxR _ (rIxL K) from ix_list) (pv 2) (pv 4) (fun _ _ => rfl)))) (pss_cons (ps_if (pt_cmpR op_in_seq (pe_ix ix_tup (pv 1) pe_int (fun _ _ => rfl)) (pe_tup (pa_cons (C8.pe_gc rfl T.LEFT) (pa_cons (C8.pe_gc rfl T.RIGHT) (pa_cons (C8.pe_gc rfl T.UNBOX) (pa_cons (C8.pe_gc rfl T.UNSHUT) (pa_cons (C8.pe_gc rfl T.READ) (pa_cons (C8.pe_gc rfl T.CHECK) pa_nil))))))) rfl) (pss_one (ps_ret (C8.pe_c c_opened_term hr (by first | decide | omega) rfl (pa_cons (pe_ix ix_tup (pv 1) pe_int (fun _ _ => rfl)) (pa_cons (pv 3) pa_nil))))) pss_nil) (pss_one (ps_ret (C8.pe_c c_built_term hr (by first | decide | omega) rfl (pa_cons (pe_ix ix_tup (pv 1) pe_int (fun _ _ => rfl)) (pa_cons (pv 3) pa_nil)))))))), ?_⟩
  refine ⟨_, rfl, _, _, _, _, rfl, rfl, SqT.of (hps), at0, rfl, _, rfl, ?_⟩
  rw [Op.heardS]
  by_cases ho : st.1 = .heard
  · refine ifT (decide_eq_true ho) ?_
    obtain ⟨o, l⟩ := st
    have ho : o = .heard := ho
    subst ho
    cases hpl with
    | @heard i _ hi =>
      obtain ⟨v, hv, htv⟩ := paired_at hus0 hi
      have h1 := (List.getElem?_eq_some_iff.mp hi).1
      exact ⟨_, rfl, _, _, _, _, rfl, rfl, SqT.of (hps), at1, _, rfl, _, _, rfl, .inr (SqT.of hp), _, _, rfl, rfl, _, rfl, ifT (decide_eq_true (by omega)) ⟨_, rfl, _, rfl, _, _, _, _, rfl, rfl, SqT.of (hps), at1, _, _, _, _, rfl, rfl, SqT.of hp, atI_nat hv, q _ _ (Same.refl _) htv⟩⟩
  · refine ifF (decide_eq_false ho) ?_
    obtain ⟨As, hdn, hAs⟩ := pl_dn hpl ho
    have hal : As.length = st.2.length := (Paired.length hAs).symm
    have hl2 : st.2.length ≤ 2 := by rw [hpl.ok.1]; exact Op.ar_le _
    refine ⟨fun σ' H' => ∃ L us2, σ' = [some (.ref p), some (.ref ps), some (.ref a), some (.ref L), none] ∧ Same H H' ∧ H' L = some (.lst us2) ∧ TmVs H' As us2, ?_, fun σ' H1 m => ?_⟩
    · refine ⟨_, rfl, _, rfl, ?_⟩
      refine sl1 (K := K) (a := .str st.1.s) (SqT.of hps) fun p' hp' => ?_
      refine ⟨p', rfl, ⟨_, SqT.of upd_same⟩, fun L hL => lc_map walk_tup (fun i H' v => ∃ u, As[i]? = some u ∧ TmV H' u v) (lt_line (by rw [List.length_map]; omega)) hL (fun i H1 H2 v tu ⟨u, e1, e2⟩ => ⟨u, e1, e2.mono tu⟩) (fun H3 k => SqT.of (k _ _ upd_same)) (fun i y H3 H4 N hi k y1 n' => ?_) (fun H3 acc k3 hacc hl hr' => ?_)⟩
      · obtain ⟨rfl, hy⟩ := y1
        rw [List.getElem?_map] at hy
        cases hb : st.2[i]? with
        | none => rw [hb] at hy; cases hy
        | some b =>
          rw [hb] at hy
          cases hy
          obtain ⟨u, hu, hWu⟩ := paired_at hAs hb
          obtain ⟨v, hv, htv⟩ := paired_at hus hWu
          have kk : Same H H4 := (sUp hp').trans k
          exact ⟨rfl, _, rfl, _, rfl, _, _, _, _, rfl, rfl, SqL.of (kk _ _ ha), atI_nat hv, n' _ _ (Same.refl _) ⟨u, hu, htv.same kk⟩⟩
      · refine ⟨L, acc, rfl, (sUp hp').trans k3, hacc, paired_of (by rw [hl, List.length_map]; omega) fun i u v e1 e2 => ?_⟩
        obtain ⟨u', e3, e4⟩ := hr' i v e2
        rw [e1] at e3
        cases e3
        exact e4
    · obtain ⟨L, us2, rfl, k1, hL, hus2⟩ := m
      have hps1 := k1 _ _ hps
      refine ⟨_, rfl, _, _, _, _, rfl, rfl, SqT.of (hps1), at0, by show 6 ≤ sizeLine; decide, fun p1 hp1 => ⟨p1, _, rfl, .inr (SqT.of upd_same), rfl, rfl, _, rfl, ?_⟩⟩
      have hps2 := sUp (o := .tup [V.str "left", V.str "right", V.str "unbox", V.str "unshut", V.str "read", V.str "check"]) hp1 _ _ hps1
      have hL2 := sUp (o := .tup [V.str "left", V.str "right", V.str "unbox", V.str "unshut", V.str "read", V.str "check"]) hp1 _ _ hL
      have hAg : Good As := ⟨fun u hu => by
        obtain ⟨i, hi⟩ := List.getElem?_of_mem hu
        obtain ⟨b, hb, hWb⟩ := paired_at' hAs hi
        exact hg.1 u (List.mem_of_getElem? hWb), fun u hu => by
        obtain ⟨i, hi⟩ := List.getElem?_of_mem hu
        obtain ⟨b, hb, hWb⟩ := paired_at' hAs hi
        exact hg.2 u (List.mem_of_getElem? hWb)⟩
      cases hop : st.1.opens with
      | true => exact ifT ((opens_in _ ho).trans hop) ⟨_, rfl, _, _, _, _, rfl, rfl, SqT.of (hps2), at0, _, rfl, st.1, As, t, L, us2, rfl, hL2, TmVs.same (sUp hp1) hus2, hdn, hop, hAg, fun v H' k' hv => q v H' (k1.trans ((sUp hp1).trans k')) hv⟩
      | false => exact ifF ((opens_in _ ho).trans hop) ⟨_, rfl, _, _, _, _, rfl, rfl, SqT.of (hps2), at0, _, rfl, st.1, As, t, L, us2, rfl, hL2, TmVs.same (sUp hp1) hus2, hdn, hop, hw, h5, fun v H' k' hv => q v H' (k1.trans ((sUp hp1).trans k')) hv⟩
theorem atL {xs : List V} {v : V} (h : xs[xs.length - 1]? = some v) : atI xs (-1) = some v := by
  rcases List.eq_nil_or_concat xs with e | ⟨l, a, e⟩
  · subst e; cases h
  · have e : xs = l ++ [a] := by simpa using e
    subst e
    have e2 : (l ++ [a])[(l ++ [a]).length - 1]? = some a := by simp
    rw [e2] at h
    cases h
    exact atI_last l v
abbrev N_played : List PySem.Str := ["hearing", "recipe", "row", "terms", "step", "term"]
abbrev P_played : List PySem.Str := ["hearing", "recipe"]
theorem sc_played : FnScope N_played P_played (defScope s_played) := ⟨rfl, rfl, rfl, by decide +kernel, rfl, by decide +kernel, by decide +kernel⟩
def sp_played : Sp := fun vs H Q _ => ∃ a hs v S W t, vs = [.ref a, v] ∧ Hear H a hs ∧ RecV H S v ∧ Runs hs S W ∧ Good W ∧ S.length ≤ 60000 ∧ W[W.length - 1]? = some t ∧ ∀ v H', Same H H' → TmV H' t v → Q v H'
theorem c_played (D : Dfn K mg "played" s_played) (T : Gs K mg w) (c_good_hearing : C8.Cal P w K mg base 11 "good_hearing" sp_good_hearing []) (c_check_recipe : C8.Cal P w K mg base 5 "check_recipe" sp_check_recipe []) (c_played_step : C8.Cal P w K mg base 12 "played_step" sp_played_step []) : C8.Cal P w K mg base 13 "played" sp_played [] := by
  have sc := sc_played
  refine mkCal D (fun _ _ _ _ _ _ us hl => match us, hl with | [_, _], _ => rfl) sc (fun vs H Q E h => by obtain ⟨a, hs, v, S, W, t, rfl, _⟩ := h; rfl) fun cdv A outer s H vs Q E ff hr h => ?_
  obtain ⟨a, hs, v, S, W, t, rfl, ⟨us, ha, hus, h40, hg, hub⟩, ⟨p, ss, rfl, hp, hss⟩, hrun, hW, h6, hlast, q⟩ := h
  have hsl : ss.length = S.length := (Paired.length hss).symm
  have hwl := hrun.len
  have hpos : 0 < W.length := by
    have := (List.getElem?_eq_some_iff.mp hlast).1
    omega
  refine ⟨_, (pss_cons (ps_set (i := 2) sc.nd rfl (Or.inl rfl) (C8.pe_c c_good_hearing hr (by first | decide | omega) rfl (pa_cons (pv 0) pa_nil))) (pss_cons (ps_expr (C8.pe_c c_check_recipe hr (by first | decide | omega) rfl (pa_cons (pv 1) pa_nil))) (pss_cons (ps_set (i := 3) sc.nd rfl (Or.inl rfl) (pe_lst pa_nil)) (pss_cons (ps_for PassesOwn.never rfl (pi_tup (pv 1)) (pg_name (i := 4) sc.nd rfl (Or.inl rfl)) (pss_cons (ps_set (i := 5) sc.nd rfl (Or.inl rfl) (C8.pe_c c_played_step hr (by first | decide | omega) rfl (pa_cons (pv 2) (pa_cons (pv 4) (pa_cons (pv 3) pa_nil))))) (pss_cons (ps_if (pt_cmpR op_isN (pv 5) pe_non (nomark _)) (pss_one (ps_ret pe_non)) pss_nil) (pss_one (ps_expr (pe_bm PySem.F.plainAttrs_list PySem.F.slot_list_append PySem.F.type_list_append mt_append (pv 3) (pa_cons (pv 5) pa_nil))))))) (pss_one (ps_ret (pe_ix ix_list (pv 3) (pe_un un_neg pe_int) (fun _ _ => rfl)))))))), ?_⟩
  refine ⟨_, rfl, a, hs, us, rfl, ha, hus, h40, hg, fun p1 H1 k1 hp1 => ⟨_, rfl, _, S, rfl, ⟨p, ss, rfl, k1 _ _ hp, StVs.mono (sTups k1) hss⟩, by omega, h6, hrun.ok, fun H2 k2 => ⟨by show 0 ≤ sizeLine; decide, fun L hL => ?_⟩⟩⟩
  have k12 := k1.trans k2
  have k3 : Same H (upd H2 L (.lst [])) := k12.trans (sUp hL)
  have hpL : p ≠ L := fun z => by subst z; rw [k12 _ _ hp] at hL; cases hL
  have hp1L : p1 ≠ L := fun z => by subst z; rw [k2 _ _ hp1] at hL; cases hL
  refine ⟨_, rfl, p, rfl, ⟨_, SqT.of (k3 _ _ hp)⟩, for_it walk_tup (fun i σ' H' => ∃ x4 x5, σ' = [some (.ref a), some (.ref p), some (.ref p1), some (.ref L), x4, x5] ∧ SamX (fun b => b = L) H2 H' ∧ Tups H2 H' ∧ ∃ us, H' L = some (.lst us) ∧ TmVs H' (W.take i) us)
    ⟨none, none, rfl, (SamX.refl _ _).up hL, sTups (sUp hL), [], upd_same, .nil⟩ (fun i σ' H' _ pp => by obtain ⟨_, _, _, k, _⟩ := pp; exact SqT.of (k _ _ hpL (k12 _ _ hp))) (fun i x σ' H3 H4 hi pp y => ?_) (fun σ' H3 pp => ?_)⟩
  · obtain ⟨x4, x5, rfl, k3, tu3, us3, hL3, hus3⟩ := pp
    obtain ⟨rfl, hy⟩ := y
    obtain ⟨st, hst⟩ : ∃ st, S[i]? = some st := ⟨_, List.getElem?_eq_getElem (by omega)⟩
    obtain ⟨x', hx', hsx⟩ := paired_at hss hst
    have e : x' = x := by rw [hy] at hx'; exact (Option.some.inj hx').symm
    subst e
    obtain ⟨ti, hti, hpl⟩ := hrun.at hst
    have tuH : Tups H H4 := (sTups k12).trans tu3
    have hul3 : us3.length = (W.take i).length := (Paired.length hus3).symm
    have hti' := List.mem_of_getElem? hti
    refine ⟨_, rfl, _, rfl, _, rfl, p1, hs, us, x', st, L, W.take i, us3, ti, rfl, k3 _ _ hp1L (k2 _ _ hp1), TmVs.mono tuH hus, hsx.mono tuH, hL3, hus3, hpl, ⟨fun u hu => hW.1 u (take_mem hu), fun u hu => hW.2 u (take_mem hu)⟩, hW.1 _ hti', hW.2 _ hti', fun v H5 k5 hv => ?_⟩
    have hvn : v ≠ .non := fun z => by
      subst z
      cases ti with
      | nm x => cases hv
      | un g a => obtain ⟨_, _, e, _⟩ := hv; cases e
      | bi g a b => obtain ⟨_, _, _, e, _⟩ := hv; cases e
    refine ⟨_, rfl, rfl, _, rfl, ifF (decide_eq_false hvn) ⟨_, rfl, .inl ⟨rfl, _, SqL.of (k5 _ _ hL3)⟩, _, rfl, L, us3, v, rfl, rfl, k5 _ _ hL3, lt_line (by rw [hul3, List.length_take]; omega), _, _, rfl, ?_, ?_, _, upd_same, ?_⟩⟩
    · exact fun b o n e => (upd_ne n).trans (k5 _ _ (k3 _ _ n e))
    · exact tu3.trans ((sTups k5).trans (tups_up (fun xs e => by rw [k5 _ _ hL3] at e; cases e)))
    · have tu : Tups H5 (upd H5 L (.lst (us3 ++ [v]))) := tups_up (fun xs e => by rw [k5 _ _ hL3] at e; cases e)
      have h9 : W.take (i + 1) = W.take i ++ [ti] := by rw [List.take_succ, hti]; rfl
      rw [h9]
      exact paired_app (TmVs.mono ((sTups k5).trans tu) hus3) (.cons (hv.mono tu) .nil)
  · obtain ⟨x4, x5, rfl, k3, tu3, us3, hL3, hus3⟩ := pp
    rw [hsl, hwl, List.take_length] at hus3
    obtain ⟨v, hv, htv⟩ := paired_at hus3 hlast
    have hul3 : us3.length = W.length := (Paired.length hus3).symm
    refine ⟨_, rfl, _, rfl, _, _, _, _, rfl, rfl, SqL.of hL3, atL (by rw [hul3]; exact hv), q _ _ (k12.trans (same_new k3 hL)) htv⟩
end
end Kt
/-! The walks: checks. -/
namespace Kt
open PySem PySem.Spec PyProof.Rows L2
open Tm
section
variable {P : Program} {w : World} {K : PySem.W.Frag} {mg : PySem.Str → Option Value} {base : Heap}
/-! ### pruning -/
def insN (l : List Nat) (b : Nat) : List Nat := if b ∈ l then l else l ++ [b]
theorem mem_insN {l : List Nat} {b x : Nat} : x ∈ insN l b ↔ x ∈ l ∨ x = b := by
  unfold insN
  split
  · rename_i h
    exact ⟨.inl, fun q => q.elim id fun e => e ▸ h⟩
  · simp
theorem insN_nodup {l : List Nat} {b : Nat} (h : l.Nodup) : (insN l b).Nodup := by
  unfold insN
  split
  · exact h
  · exact nd_snoc h (by assumption)
/-- the dict's keys are these numbers -/
def Nk (H : Hp) (d : Addr) (l : List Nat) : Prop := ∃ kvs, H d = some (.dK kvs) ∧ kvs.map (·.1) = l.map fun n : Nat => (Sum.inl (n : Int) : Key)
theorem nk_mem {kvs : List (Key × V)} {l : List Nat} (h : kvs.map (·.1) = l.map fun n : Nat => (Sum.inl (n : Int) : Key)) (b : Nat) : (valV kvs (Sum.inl (b : Int))).isSome = decide (b ∈ l) := by
  by_cases hb : b ∈ l
  · rw [decide_eq_true hb]
    cases e : valV kvs (Sum.inl (b : Int)) with
    | some v => rfl
    | none =>
      rw [valV_none_iff, h] at e
      exact (e (List.mem_map.mpr ⟨b, hb, rfl⟩)).elim
  · rw [decide_eq_false hb]
    cases e : valV kvs (Sum.inl (b : Int)) with
    | none => rfl
    | some v =>
      have := valV_in e
      rw [h] at this
      obtain ⟨n, hn, e2⟩ := List.mem_map.mp this
      have : n = b := by injection e2 with e2; omega
      exact (hb (this ▸ hn)).elim
theorem nk_put {kvs : List (Key × V)} {l : List Nat} (h : kvs.map (·.1) = l.map fun n : Nat => (Sum.inl (n : Int) : Key)) (b : Nat) (v : V) : (putK kvs (Sum.inl (b : Int)) v).map (·.1) = (insN l b).map fun n : Nat => (Sum.inl (n : Int) : Key) := by
  have hm := nk_mem h b
  unfold insN
  by_cases hb : b ∈ l
  · rw [if_pos hb, ← h]
    unfold putK
    rw [if_pos]
    · rw [List.map_map]
      refine List.map_congr_left fun p hp => ?_
      show (if p.1 = _ then _ else p).1 = p.1
      split
      · rfl
      · rfl
    · rw [List.any_eq_true]
      have : (Sum.inl (b : Int) : Key) ∈ kvs.map (·.1) := by rw [h]; exact List.mem_map.mpr ⟨b, hb, rfl⟩
      obtain ⟨p, hp, e⟩ := List.mem_map.mp this
      exact ⟨p, hp, decide_eq_true e⟩
  · rw [if_neg hb]
    rw [decide_eq_false hb] at hm
    have : valV kvs (Sum.inl (b : Int)) = none := by
      cases e : valV kvs (Sum.inl (b : Int)) with
      | none => rfl
      | some v => rw [e] at hm; cases hm
    rw [putK_new v this, List.map_append, List.map_append, h]
    rfl
theorem fm_get {α β : Type} {f : α → Option β} : ∀ {l : List α} {i : Nat} {a : α}, (∀ x ∈ l, (f x).isSome = true) → l[i]? = some a → (l.filterMap f)[i]? = f a
  | [], _, _, _, e => by simp at e
  | x :: r, i, a, h, e => by
    obtain ⟨y, hy⟩ := Option.isSome_iff_exists.mp (h x (by simp))
    rw [List.filterMap_cons, hy]
    cases i with
    | zero => cases e; exact hy.symm
    | succ i => exact fm_get (fun z hz => h z (by simp [hz])) (by simpa using e)
theorem fm_len {α β : Type} {f : α → Option β} : ∀ {l : List α}, (∀ x ∈ l, (f x).isSome = true) → (l.filterMap f).length = l.length
  | [], _ => rfl
  | x :: r, h => by
    obtain ⟨y, hy⟩ := Option.isSome_iff_exists.mp (h x (by simp))
    rw [List.filterMap_cons, hy, List.length_cons, List.length_cons, fm_len fun z hz => h z (by simp [hz])]
/-- sorted numbers -/
theorem order_of {l : List Nat} (hn : l.Nodup) {ys : List Int} (hp : ys.Perm (l.map fun n : Nat => (n : Int))) (hs : ys.Pairwise (· ≤ ·)) : ∃ order : List Nat, ys = order.map (fun n : Nat => (n : Int)) ∧ order.Perm l ∧ order.Pairwise (· < ·) := by
  have h0 : ∀ y ∈ ys, ∃ n : Nat, n ∈ l ∧ (n : Int) = y := fun y hy => by
    obtain ⟨n, hn, e⟩ := List.mem_map.mp (hp.mem_iff.mp hy)
    exact ⟨n, hn, e⟩
  have e1 : ys = (ys.map Int.toNat).map (fun n : Nat => (n : Int)) := by
    rw [List.map_map]
    have : ys.map ((fun n : Nat => (n : Int)) ∘ Int.toNat) = ys.map id := List.map_congr_left fun y hy => by
      obtain ⟨n, _, rfl⟩ := h0 y hy
      rfl
    rw [this, List.map_id]
  have hp2 : (ys.map Int.toNat).Perm l := by
    have := hp.map Int.toNat
    rw [List.map_map] at this
    have e2 : l.map (Int.toNat ∘ fun n : Nat => (n : Int)) = l := by
      have : l.map (Int.toNat ∘ fun n : Nat => (n : Int)) = l.map id := List.map_congr_left fun n _ => rfl
      rw [this, List.map_id]
    rw [e2] at this
    exact this
  refine ⟨ys.map Int.toNat, e1, hp2, ?_⟩
  have nd : (ys.map Int.toNat).Nodup := hp2.nodup_iff.mpr hn
  rw [e1] at hs
  generalize ys.map Int.toNat = o at hs nd
  rw [List.pairwise_map] at hs
  have := List.Pairwise.and hs nd
  exact this.imp fun {a b} h => by
    have h1 := h.1
    have h2 : a ≠ b := h.2
    omega
theorem nd_of_lt {l : List Nat} (h : l.Pairwise (· < ·)) : l.Nodup := h.imp fun {a b} h => by omega
/-- the place of a number -/
def ixN' (order : List Nat) (k : Nat) : Nat := order.idxOf k
theorem ixN'_at {order : List Nat} (h : order.Nodup) {j k : Nat} (e : order[j]? = some k) : ixN' order k = j := by
  obtain ⟨hj, rfl⟩ := List.getElem?_eq_some_iff.mp e
  exact h.idxOf_getElem j hj
theorem step_eta (s : Step) : s = (s.1, s.2) := rfl
theorem args_ne {s : Step} (h : s.1 ≠ .heard) : args s = s.2 := by
  obtain ⟨o, l⟩ := s
  cases o <;> first | exact (h rfl).elim | rfl
theorem args_heard {s : Step} (h : s.1 = .heard) : args s = [] := by
  obtain ⟨o, l⟩ := s
  have h : o = .heard := h
  subst h; rfl
theorem renum_ne {ix : Nat → Nat} {s : Step} (h : s.1 ≠ .heard) : renum ix s = (s.1, s.2.map ix) := by
  obtain ⟨o, l⟩ := s
  cases o <;> first | exact (h rfl).elim | rfl
theorem renum_heard {ix : Nat → Nat} {s : Step} (h : s.1 = .heard) : renum ix s = s := by
  obtain ⟨o, l⟩ := s
  have h : o = .heard := h
  subst h; rfl
abbrev N_pruned : List PySem.Str := ["rows", "at", "needed", "number", "earlier", "order", "place", "recipe", "step", "index"]
abbrev P_pruned : List PySem.Str := ["rows", "at"]
theorem sc_pruned : FnScope N_pruned P_pruned (defScope s_pruned) := ⟨rfl, rfl, rfl, by decide +kernel, rfl, by decide +kernel, by decide +kernel⟩
def sp_pruned : Sp := fun vs H Q _ => ∃ r k S us W hs t, vs = [.ref r, .int (k : Nat)] ∧ H r = some (.lst us) ∧ StVs H S us ∧ Runs hs S W ∧ W[k]? = some t ∧ S.length ≤ 60000 ∧
  ∀ v H' S' W', Same H H' → RecV H' S' v → Runs hs S' W' → S'.length ≤ S.length → (∀ x ∈ W', x ∈ W) → W'[W'.length - 1]? = some t → Q v H'
theorem c_pruned (D : Dfn K mg "pruned" s_pruned) (T : Gs K mg w) : C8.Cal P w K mg base 1 "pruned" sp_pruned [] := by
  have sc := sc_pruned
  refine mkCal D (fun _ _ _ _ _ _ us hl => match us, hl with | [_, _], _ => rfl) sc (fun vs H Q E h => by obtain ⟨r, k, S, us, W, hs, t, rfl, _⟩ := h; rfl) fun cdv A outer s H vs Q E ff hr h => ?_
  obtain ⟨r, k, S, us, W, hs, t, rfl, hrw, hus, hrun, hWk, h6, q⟩ := h
  have hul : us.length = S.length := (Paired.length hus).symm
  have hwl := hrun.len
  have hkW : k < W.length := (List.getElem?_eq_some_iff.mp hWk).1
  have rowAt : ∀ m, m < S.length → ∃ s v, S[m]? = some s ∧ us[m]? = some v ∧ StV H s v := fun m hm => by
    obtain ⟨v, hv, hs⟩ := paired_at hus (List.getElem?_eq_getElem hm)
    exact ⟨_, v, List.getElem?_eq_getElem hm, hv, hs⟩
  have argsLt : ∀ m s, S[m]? = some s → ∀ b ∈ args s, b < m := fun m s hm b hb => by
    obtain ⟨t, h1, h2⟩ := hrun.at hm
    have := h2.args_lt b hb
    rw [List.length_take] at this
    omega
  refine ⟨_, (pss_cons (ps_set (i := 2) sc.nd rfl (Or.inl rfl) (pe_disp (pps_cons (pv 1) pe_bl pps_nil) (by rfl) (by rfl) (fun z => by cases z) (by decide))) (C8.pss_cut (ps_for PassesOwn.never rfl (pi_range3 rfl T.range (pa_cons (pv 1) (pa_cons (pe_un un_neg pe_int) (pa_cons (pe_un un_neg pe_int) pa_nil)))) (pg_name (i := 3) sc.nd rfl (Or.inl rfl)) (pss_one (ps_if (PW.pt (pw_and (pt_cmp (pc_din (hu_of hr) (pv 3) (pv 2))) (pw_and1 (pt_cmpR op_ne (pe_ix ix_tup (pe_ix ix_list (pv 0) (pv 3) (fun _ _ => rfl)) pe_int (fun _ _ => rfl)) (C8.pe_gc rfl T.HEARD) (nomark _))))) (pss_one (ps_for PassesOwn.never rfl (pi_tup (pe_slice sl_tup (pe_ix ix_list (pv 0) (pv 3) (fun _ _ => rfl)) (po_some pe_int) po_no)) (pg_name (i := 4) sc.nd rfl (Or.inl rfl)) (pss_one (ps_dput (hu_of hr) (pv 2) (pv 4) pe_bl rfl)))) pss_nil))) (C8.pss_cut (ps_set (i := 5) sc.nd rfl (Or.inl rfl) (pe_callB (call_sortedI rfl) rfl T.sorted (by decide +kernel) (pa_cons (pv 2) pa_nil))) (C8.pss_cut (ps_set (i := 6) sc.nd rfl (Or.inr rfl) (pe_dc (own := [("number", 3), ("index", 9)]) (g := gTup K 2 (gCons (gName 9) (gCons (gName 3) gNil))) (tt := tYes) rfl sc.nd (pi_enum rfl T.enumerate (pa_cons (pv 5) pa_nil)) (blkOk_by (N := N_pruned) (sc := defScope s_pruned) (by decide +kernel)) (fun _ _ _ _ _ => (pg_tup rfl (pgs_cons (pg_name (i := 9) sc.nd rfl (Or.inl rfl)) (pgs_cons (pg_name (i := 3) sc.nd rfl (Or.inl rfl)) pgs_nil)))) (fun _ _ _ _ _ => pts_nil) (fun _ _ _ _ _ => (pv 3)) (fun _ _ _ _ _ => (pv 9)))) (pss_cons (ps_set (i := 7) sc.nd rfl (Or.inl rfl) (pe_lst pa_nil)) (pss_cons (ps_for PassesOwn.never rfl (pi_list (pv 5)) (pg_name (i := 3) sc.nd rfl (Or.inl rfl)) (pss_cons (ps_set (i := 8) sc.nd rfl (Or.inl rfl) (pe_ix ix_list (pv 0) (pv 3) (fun _ _ => rfl))) (pss_one (ps_expr (pe_bm PySem.F.plainAttrs_list PySem.F.slot_list_append PySem.F.type_list_append mt_append (pv 7) (pa_cons (pe_ifExp (pt_cmpR op_eq (pe_ix ix_tup (pv 8) pe_int (fun _ _ => rfl)) (C8.pe_gc rfl T.HEARD) (nomark _)) (pv 8) (pe_op op_catA (pe_tup (pa_cons (pe_ix ix_tup (pv 8) pe_int (fun _ _ => rfl)) pa_nil)) (pe_callTy call_tuple_of rfl T.tuple (by decide +kernel) (pa_cons (pe_lc (own := [("earlier", 4)]) (g := gName 4) (tt := tYes) rfl sc.nd (pi_tup (pe_slice sl_tup (pv 8) (po_some pe_int) po_no)) (blkOk_by (N := N_pruned) (sc := defScope s_pruned) (by decide +kernel)) (fun _ _ _ _ _ => (pg_name (i := 4) sc.nd rfl (Or.inl rfl))) (fun _ _ _ _ _ => pts_nil) (fun _ _ _ _ _ => (pe_dget (hu_of hr) (pv 6) (pv 4) (fun _ _ => rfl)))) pa_nil)))) pa_nil)))))) (pss_one (ps_ret (pe_callTy call_tuple_of rfl T.tuple (by decide +kernel) (pa_cons (pv 7) pa_nil)))))))))), ?_⟩
  refine fun d hdn => ⟨_, rfl, upd_same, [(Sum.inl (k : Int), .bl true)], rfl, by show 1 ≤ 15; decide, ?_⟩
  have hrd : r ≠ d := fun z => by subst z; rw [hrw] at hdn; cases hdn
  have e0 : upd (upd H d (.dK [])) d (.dK (mergeK [] [(Sum.inl (k : Int), V.bl true)])) d = some (.dK [(Sum.inl (k : Int), V.bl true)]) := upd_same
  have k0 : SamX (fun b => b = d) H (upd (upd H d (.dK [])) d (.dK (mergeK [] [(Sum.inl (k : Int), V.bl true)]))) := fun b o n e => (upd_ne n).trans ((upd_ne n).trans e)
  generalize upd (upd H d (.dK [])) d (.dK (mergeK [] [(Sum.inl (k : Int), V.bl true)])) = H0 at e0 k0
  -- what is needed
  refine ⟨fun σ' H' => ∃ x3 x4, σ' = [some (.ref r), some (.int (k : Nat)), some (.ref d), x3, x4, none, none, none, none, none] ∧ SamX (fun b => b = d) H H' ∧ ∃ l, Nk H' d l ∧ l.Nodup ∧ k ∈ l ∧ (∀ a ∈ l, a ≤ k) ∧ (∀ a ∈ l, ∀ s, S[a]? = some s → ∀ b ∈ args s, b ∈ l), ?_, fun σ' H1 m1 => ?_⟩
  · refine ⟨_, rfl, _, rfl, _, rfl, _, _, _, _, rfl, RgC.neg (by omega) (by omega) (by omega) (by omega), for_rangeC (lo := k) (c := -1) (n := ((k : Int) - (-1)).toNat) (fun i σ' H' => ∃ x3 x4, σ' = [some (.ref r), some (.int (k : Nat)), some (.ref d), x3, x4, none, none, none, none, none] ∧ SamX (fun b => b = d) H H' ∧ ∃ l, Nk H' d l ∧ l.Nodup ∧ k ∈ l ∧ (∀ a ∈ l, a ≤ k) ∧ (∀ a ∈ l, k + 1 ≤ a + i → ∀ s, S[a]? = some s → ∀ b ∈ args s, b ∈ l))
      ⟨none, none, rfl, k0, [k], ⟨_, e0, rfl⟩, by simp, by simp, by simp, fun a ha hak => by simp at ha; omega⟩ (fun i σ' H2 hi pp => ?_) (fun σ' H2 pp => ?_)⟩
    · obtain ⟨x3, x4, rfl, k2, l, ⟨kvs, hkv, hkl⟩, nd, hk, hle, hcl⟩ := pp
      have hi : i ≤ k := by omega
      have em : (k : Int) + (i : Nat) * (-1) = ((k - i : Nat) : Int) := by omega
      rw [em]
      obtain ⟨st, v, hst, hv, p, rfl, hp⟩ := rowAt (k - i) (by omega)
      have hr2 := k2 _ _ hrd hrw
      have hpd : p ≠ d := fun z => by subst z; rw [hp] at hdn; cases hdn
      have hp2 := k2 _ _ hpd hp
      refine ⟨_, rfl, _, rfl, d, _, rfl, DGet.k (k := Sum.inl ((k - i : Nat) : Int)) hkv, _, rfl, ?_⟩
      rw [nk_mem hkl]
      by_cases hmem : k - i ∈ l
      · refine ifT (decide_eq_true hmem) ⟨_, rfl, _, rfl, _, _, _, _, rfl, rfl, SqL.of hr2, atI_nat hv, _, _, _, _, rfl, rfl, SqT.of (hp2), at0, rfl, _, rfl, ?_⟩
        rw [Op.heardS]
        by_cases ho : st.1 = .heard
        · rw [decide_eq_true ho]
          refine iteF ⟨_, _, rfl, k2, l, ⟨kvs, hkv, hkl⟩, nd, hk, hle, fun a ha hak s hs b hb => ?_⟩
          by_cases ea : a = k - i
          · subst ea
            rw [hst] at hs
            cases hs
            rw [args_heard ho] at hb
            cases hb
          · exact hcl a ha (by have := hle a ha; omega) s hs b hb
        · rw [decide_eq_false ho]
          refine iteT ⟨_, rfl, _, rfl, _, _, _, _, rfl, rfl, SqL.of hr2, atI_nat hv, _, rfl, ?_⟩
          refine sl1 (K := K) (a := .str st.1.s) (SqT.of hp2) fun p' hp' => ?_
          have hpd' : d ≠ p' := fun z => by subst z; rw [hkv] at hp'; cases hp'
          refine ⟨p', rfl, ⟨_, SqT.of upd_same⟩, for_it walk_tup (fun j σ' H' => ∃ x4, σ' = [some (.ref r), some (.int (k : Nat)), some (.ref d), some (.int ((k - i : Nat) : Int)), x4, none, none, none, none, none] ∧ SamX (fun b => b = d) (upd H2 p' (.tup (st.2.map fun a => V.int (a : Nat)))) H' ∧ ∃ l', Nk H' d l' ∧ l'.Nodup ∧ (∀ x, x ∈ l' ↔ x ∈ l ∨ x ∈ st.2.take j))
            ⟨_, rfl, SamX.refl _ _, l, ⟨kvs, (upd_ne hpd').trans hkv, hkl⟩, nd, by simp⟩ (fun j σ' H' _ pp => by obtain ⟨_, _, k3, _⟩ := pp; exact SqT.of (k3 _ _ (Ne.symm hpd') upd_same)) (fun j x σ' H3 H4 hj pp y => ?_) (fun σ' H3 pp => ?_)⟩
          · obtain ⟨x4', rfl, k3, l', ⟨kvs', hkv', hkl'⟩, nd', hmem'⟩ := pp
            obtain ⟨rfl, hy⟩ := y
            rw [List.getElem?_map] at hy
            cases hb : st.2[j]? with
            | none => rw [hb] at hy; cases hy
            | some b =>
              rw [hb] at hy
              cases hy
              have hbl := argsLt _ _ hst b (by rw [args_ne ho]; exact List.mem_of_getElem? hb)
              have hl' : l'.length ≤ S.length := by
                have := nodup_len (U := List.range S.length) nd' fun x hx => by
                  rw [List.mem_range]
                  rcases (hmem' x).mp hx with h | h
                  · have := hle x h; omega
                  · have := argsLt _ _ hst x (by rw [args_ne ho]; exact take_mem h); omega
                rw [List.length_range] at this
                exact this
              have hkl'' : kvs'.length = l'.length := by
                have := congrArg List.length hkl'
                rw [List.length_map, List.length_map] at this
                exact this
              refine ⟨_, rfl, _, rfl, d, _, rfl, DPut.k (k := Sum.inl (b : Int)) hkv' (lt_line (by omega)), _, rfl, fun b o n e => (upd_ne n).trans (k3 _ _ n e), insN l' b, ⟨_, upd_same, nk_put hkl' b _⟩, insN_nodup nd', fun x => ?_⟩
              rw [mem_insN, hmem' x, List.take_succ, hb, List.mem_append]
              simp [or_assoc]
          · obtain ⟨x4', rfl, k3, l', hnk', nd', hmem'⟩ := pp
            rw [List.length_map, List.take_length] at hmem'
            have kup : SamX (fun b => b = d) H2 (upd H2 p' (.tup (st.2.map fun a => V.int (a : Nat)))) := Same.x _ (sUp hp')
            refine ⟨_, _, rfl, k2.trans (kup.trans k3), l', hnk', nd', (hmem' k).mpr (.inl hk), fun a ha => ?_, fun a ha hak s hs b hb => ?_⟩
            · rcases (hmem' a).mp ha with h | h
              · exact hle a h
              · have := argsLt _ _ hst a (by rw [args_ne ho]; exact h); omega
            · by_cases ea : a = k - i
              · subst ea
                rw [hst] at hs
                cases hs
                rw [args_ne ho] at hb
                exact (hmem' b).mpr (.inr hb)
              · have ha2 : a ∈ l := by
                  rcases (hmem' a).mp ha with h | h
                  · exact h
                  · have := argsLt _ _ hst a (by rw [args_ne ho]; exact h)
                    omega
                exact (hmem' b).mpr (.inl (hcl a ha2 (by have := hle a ha2; omega) s hs b hb))
      · refine ifF (decide_eq_false hmem) (iteF ⟨_, _, rfl, k2, l, ⟨kvs, hkv, hkl⟩, nd, hk, hle, fun a ha hak s hs b hb => ?_⟩)
        exact hcl a ha (by
          have := hle a ha
          have : a ≠ k - i := fun e => hmem (e ▸ ha)
          omega) s hs b hb
    · obtain ⟨x3, x4, rfl, k2, l, hnk, nd, hk, hle, hcl⟩ := pp
      exact ⟨_, _, rfl, k2, l, hnk, nd, hk, hle, fun a ha s hs b hb => hcl a ha (by omega) s hs b hb⟩
  obtain ⟨x3, x4, rfl, k1, l, ⟨kvs, hkv, hkl⟩, nd, hk, hle, hcl⟩ := m1
  -- the order
  refine ⟨fun σ' H' => ∃ (o : Addr) (order : List Nat), σ' = [some (.ref r), some (.int (k : Nat)), some (.ref d), x3, x4, some (.ref o), none, none, none, none] ∧ SamX (fun b => b = d) H H' ∧ H' o = some (.lst ((order.map fun n : Nat => (n : Int)).map V.int)) ∧ o ≠ d ∧ order.Perm l ∧ order.Pairwise (· < ·) ∧ H' d = some (.dK kvs), ?_, fun σ' H2 m2 => ?_⟩
  · refine ⟨_, rfl, d, kvs, l.map (fun n : Nat => (n : Int)), rfl, .inl hkv, by rw [hkl, List.map_map]; rfl, fun ys o hperm hsort ho => ?_⟩
    obtain ⟨order, rfl, h1, h2⟩ := order_of nd hperm hsort
    exact ⟨o, order, rfl, k1.trans (Same.x _ (sUp ho)), upd_same, fun z => (by subst z; rw [hkv] at ho; cases ho), h1, h2, sUp ho _ _ hkv⟩
  obtain ⟨o, order, rfl, k2, ho, hod, hperm, hlt, hd2⟩ := m2
  have ndo := nd_of_lt hlt
  have hokS : ∀ n ∈ order, n < S.length := fun n hn => by
    have := hle n (hperm.mem_iff.mp hn)
    omega
  have hol : order.length ≤ S.length := by
    have := nodup_len (U := List.range S.length) ndo fun x hx => List.mem_range.mpr (hokS x hx)
    rw [List.length_range] at this
    exact this
  have hitem : ∀ (i : Nat) (v : V), ((order.map fun n : Nat => (n : Int)).map V.int)[i]? = some v → ∃ n, order[i]? = some n ∧ v = .int (n : Nat) := fun i v e => by
    rw [List.getElem?_map, List.getElem?_map] at e
    cases h : order[i]? with
    | none => rw [h] at e; cases e
    | some n => rw [h] at e; cases e; exact ⟨n, rfl, rfl⟩
  have holen : ((order.map fun n : Nat => (n : Int)).map V.int).length = order.length := by simp
  -- the places
  refine ⟨fun σ' H' => ∃ pl kvp, σ' = [some (.ref r), some (.int (k : Nat)), some (.ref d), x3, x4, some (.ref o), some (.ref pl), none, none, none] ∧ SamX (fun b => b = d) H H' ∧ H' o = some (.lst ((order.map fun n : Nat => (n : Int)).map V.int)) ∧ H' pl = some (.dK kvp) ∧ pl ≠ d ∧ (∀ (j n : Nat), order[j]? = some n → valV kvp (Sum.inl (n : Int)) = some (.int (j : Nat))), ?_, fun σ' H3 m3 => ?_⟩
  · refine ⟨_, rfl, o, _, rfl, SqL.of ho, fun pl hpl => ?_⟩
    have hopl : o ≠ pl := fun z => by subst z; rw [ho] at hpl; cases hpl
    refine dc_it walk_enum (fun i H' => SamX (fun b => b = pl) H2 H' ∧ ∃ kvp, H' pl = some (.dK kvp) ∧ kvp.length = i ∧ ∀ (j : Nat) (kv : Key × V), kvp[j]? = some kv → ∃ n, order[j]? = some n ∧ kv = (Sum.inl (n : Int), .int (j : Nat)))
      ⟨fun b o n e => (upd_ne n).trans e, [], upd_same, rfl, fun j kv e => by simp at e⟩ (fun i H' _ pp => SqL.of (pp.1 _ _ hopl ho)) (fun i x H3 H4 hi pp y => ?_) (fun H3 pp => ?_)
    · obtain ⟨k3, kvp, hkp, hlp, hall⟩ := pp
      obtain ⟨TT, x1, x2, rfl, hT, rfl, e1, e2⟩ := y
      cases e1
      obtain ⟨n, hn, rfl⟩ := hitem i x2 e2
      have hplT : pl ≠ TT := fun z => by subst z; rw [hkp] at hT; cases hT
      have hnew : valV kvp (Sum.inl (n : Int)) = none := by
        rw [valV_none_iff]
        intro hm
        obtain ⟨kv, hkv2, e⟩ := List.mem_map.mp hm
        obtain ⟨j, hj⟩ := List.getElem?_of_mem hkv2
        obtain ⟨n', hn', rfl⟩ := hall j kv hj
        have : n' = n := by injection e with e; omega
        subst this
        have hj' : j < i := by rw [← hlp]; exact (List.getElem?_eq_some_iff.mp hj).1
        exact absurd (nd_ix ndo hn hn') (by omega)
      refine ⟨_, _, rfl, SqT.of upd_same, rfl, _, _, rfl, _, _, rfl, rfl, rfl, _, rfl, _, rfl, kvp, Sum.inl (n : Int), rfl, (upd_ne hplT).trans hkp, lt_line (by rw [holen] at hi; omega), ?_, _, upd_same, ?_⟩
      · exact (k3.trans (Same.x _ (sUp hT))).trans fun b o n e => (upd_ne n).trans e
      · rw [putK_new _ hnew]
        refine ⟨by simp [hlp], fun j kv e => ?_⟩
        by_cases hj : j < kvp.length
        · rw [List.getElem?_append_left hj] at e
          exact hall j kv e
        · rw [List.getElem?_append_right (by omega)] at e
          have ej : j = kvp.length := by
            cases hk' : j - kvp.length with
            | zero => omega
            | succ m => rw [hk'] at e; simp at e
          subst ej
          simp at e
          subst e
          rw [hlp]
          exact ⟨n, hn, rfl⟩
    · obtain ⟨k3, kvp, hkp, hlp, hall⟩ := pp
      have hpld : pl ≠ d := fun z => by
        subst z
        rw [hpl] at hd2
        cases hd2
      have hk : kvp.map (·.1) = order.map fun n : Nat => (Sum.inl (n : Int) : Key) := by
        refine ext_at (by rw [List.length_map, List.length_map, hlp, holen]) fun i u v e1 e2 => ?_
        rw [List.getElem?_map] at e1 e2
        cases e3 : kvp[i]? with
        | none => rw [e3] at e1; cases e1
        | some kv =>
          rw [e3] at e1
          obtain ⟨n, hn, rfl⟩ := hall i kv e3
          rw [hn] at e2
          cases e1
          cases e2
          rfl
      have ndk : (kvp.map (·.1)).Nodup := by
        rw [hk]
        exact nodup_map_on ndo fun a b _ _ e => by injection e with e; omega
      refine ⟨pl, kvp, rfl, k2.trans (Same.x _ (same_new k3 hpl)), k3 _ _ hopl ho, hkp, hpld, fun j n hj => ?_⟩
      obtain ⟨kv, hkv2⟩ : ∃ kv, kvp[j]? = some kv := ⟨_, List.getElem?_eq_getElem (by rw [hlp, holen]; exact (List.getElem?_eq_some_iff.mp hj).1)⟩
      obtain ⟨n', hn', rfl⟩ := hall j kv hkv2
      rw [hj] at hn'
      cases hn'
      exact valV_get ndk hkv2
  obtain ⟨pl, kvp, rfl, k3, ho3, hpl, hpld, hplace⟩ := m3
  -- the recipe
  have hS : ∀ x ∈ order, ((S[x]?).map (renum (ixN' order))).isSome = true := fun x hx => by
    rw [List.getElem?_eq_getElem (hokS x hx)]; rfl
  have hWs : ∀ x ∈ order, (W[x]?).isSome = true := fun x hx => by
    rw [List.getElem?_eq_getElem (by have := hokS x hx; omega)]; rfl
  have hruns := runs_prune hrun (ix := ixN' order) order.length order rfl hlt hokS (fun n hn s hs a ha => hperm.mem_iff.mpr (hcl n (hperm.mem_iff.mp hn) s hs a ha)) (fun j n e => ixN'_at ndo e)
  generalize hS' : (order.filterMap fun n => (S[n]?).map (renum (ixN' order))) = S' at hruns
  generalize hW' : (order.filterMap fun n => W[n]?) = W' at hruns
  have hS'l : S'.length = order.length := by rw [← hS']; exact fm_len hS
  have hW'l : W'.length = order.length := by rw [← hW']; exact fm_len hWs
  have hS'at : ∀ (i n : Nat), order[i]? = some n → S'[i]? = (S[n]?).map (renum (ixN' order)) := fun i n e => by rw [← hS']; exact fm_get hS e
  refine ⟨by show 0 ≤ sizeLine; decide, fun rc hrc => ?_⟩
  have hrcd : d ≠ rc → True := fun _ => trivial
  have k4 : SamX (fun b => b = d) H (upd H3 rc (.lst [])) := k3.trans (Same.x _ (sUp hrc))
  have ho4 := sUp (o := .lst []) hrc _ _ ho3
  have hpl4 := sUp (o := .lst []) hrc _ _ hpl
  have hr4 := k4 _ _ hrd hrw
  have hrc4 : upd H3 rc (.lst []) rc = some (.lst []) := upd_same
  generalize upd H3 rc (.lst []) = H4 at k4 ho4 hpl4 hr4 hrc4 ⊢
  have norc : ∀ b o, H3 b = some o → b ≠ rc := fun b o e z => by subst z; rw [hrc] at e; cases e
  have horc := norc _ _ ho3
  have hplrc := norc _ _ hpl
  have hrrc := norc _ _ (k3 _ _ hrd hrw)
  refine ⟨_, rfl, o, rfl, ⟨_, SqL.of ho4⟩, for_it walk_list (fun i σ' H' => ∃ x3 x8, σ' = [some (.ref r), some (.int (k : Nat)), some (.ref d), x3, x4, some (.ref o), some (.ref pl), some (.ref rc), x8, none] ∧ SamX (fun b => b = rc) H4 H' ∧ Tups H4 H' ∧ ∃ us', H' rc = some (.lst us') ∧ StVs H' (S'.take i) us')
    ⟨_, _, rfl, SamX.refl _ _, Tups.refl _, [], hrc4, .nil⟩ (fun i σ' H' _ pp => by obtain ⟨_, _, _, k5, _⟩ := pp; exact SqL.of (k5 _ _ horc ho4)) (fun i x σ' H5 H6 hi pp y => ?_) (fun σ' H5 pp => ?_)⟩
  · obtain ⟨x3', x8, rfl, k5, tu5, us', hus', hst'⟩ := pp
    obtain ⟨rfl, hy⟩ := y
    obtain ⟨n, hn, rfl⟩ := hitem i x hy
    obtain ⟨st, v, hst, hv, p, rfl, hp⟩ := rowAt n (hokS n (List.mem_of_getElem? hn))
    have tuH4 : Tups H H4 := k4.tups fun a e xs => by subst e; rw [hdn]; exact fun z => by cases z
    have hpH4 := tuH4 _ _ hp
    have hp6 := tu5 _ _ hpH4
    have hul' : us'.length = (S'.take i).length := (Paired.length hst').symm
    have hr6 := k5 _ _ hrrc hr4
    have hs' : S'[i]? = some (renum (ixN' order) st) := by rw [hS'at i n hn, hst]; rfl
    have hus'l : us'.length < sizeLine := lt_line (by rw [hul', List.length_take, hS'l]; omega)
    have fin : ∀ v H7, Same H6 H7 → StV H7 (renum (ixN' order) st) v → SamX (fun b => b = rc) H4 (upd H7 rc (.lst (us' ++ [v]))) ∧ Tups H4 (upd H7 rc (.lst (us' ++ [v]))) ∧ ∃ us'', upd H7 rc (.lst (us' ++ [v])) rc = some (.lst us'') ∧ StVs (upd H7 rc (.lst (us' ++ [v]))) (S'.take (i + 1)) us'' := fun v H7 k7 hv7 => by
      have tu : Tups H7 (upd H7 rc (.lst (us' ++ [v]))) := tups_up (fun xs e => by rw [k7 _ _ hus'] at e; cases e)
      refine ⟨fun b o n e => (upd_ne n).trans (k7 _ _ (k5 _ _ n e)), tu5.trans ((sTups k7).trans tu), _, upd_same, ?_⟩
      rw [List.take_succ, hs']
      exact paired_app (StVs.mono ((sTups k7).trans tu) hst') (.cons (hv7.mono tu) .nil)
    refine ⟨_, rfl, _, rfl, _, _, _, _, rfl, rfl, SqL.of hr6, atI_nat hv, _, rfl, .inl ⟨rfl, _, SqL.of hus'⟩, _, rfl, _, _, _, _, rfl, rfl, SqT.of (hp6), at0, rfl, _, rfl, ?_⟩
    rw [Op.heardS]
    by_cases hh : st.1 = .heard
    · refine ifT (decide_eq_true hh) ⟨_, rfl, rc, us', _, rfl, rfl, hus', hus'l, _, _, rfl, fin _ H6 (Same.refl _) ?_⟩
      rw [renum_heard hh]
      exact ⟨p, rfl, hp6⟩
    · refine ifF (decide_eq_false hh) ⟨_, rfl, _, _, _, _, rfl, rfl, SqT.of (hp6), at0, by show 1 ≤ sizeLine; decide, fun p1 hp1 => ⟨_, rfl, _, rfl, ?_⟩⟩
      refine sl1 (K := K) (a := .str st.1.s) (SqT.of (sUp hp1 _ _ hp6)) fun p' hp' => ?_
      have har : st.2.length ≤ 2 := by
        obtain ⟨t, _, h2⟩ := hrun.at hst
        rw [h2.ok.1]
        exact Op.ar_le _
      have k67 : Same H6 _ := (sUp (o := .tup [V.str st.1.s]) hp1).trans (sUp (o := .tup (st.2.map fun a => V.int (a : Nat))) hp')
      refine ⟨p', rfl, ⟨_, SqT.of upd_same⟩, fun L hL => lc_map walk_tup (fun j H' v => ∃ b, st.2[j]? = some b ∧ v = .int (ixN' order b : Nat)) (lt_line (by rw [List.length_map]; omega)) hL (fun _ _ _ _ _ e => e) (fun H' k' => SqT.of (k' _ _ upd_same)) (fun j y H7 H8 N hj k' y1 n' => ?_) (fun H7 acc k7 hacc hl hr' => ?_)⟩
      · obtain ⟨rfl, hy⟩ := y1
        rw [List.getElem?_map] at hy
        cases hb : st.2[j]? with
        | none => rw [hb] at hy; cases hy
        | some b =>
          rw [hb] at hy
          cases hy
          have hbo : b ∈ order := hperm.mem_iff.mpr (hcl n (hperm.mem_iff.mp (List.mem_of_getElem? hn)) st hst b (by rw [args_ne hh]; exact List.mem_of_getElem? hb))
          obtain ⟨jb, hjb⟩ := List.getElem?_of_mem hbo
          refine ⟨rfl, _, rfl, _, rfl, pl, _, rfl, ?_, n' _ _ (Same.refl _) ⟨b, hb, rfl⟩⟩
          rw [ixN'_at ndo hjb, ← hplace jb b hjb]
          exact DGet.k (k := Sum.inl (b : Int)) ((k67.trans k') _ _ (k5 _ _ hplrc hpl4))
      · have e1 : acc = st.2.map fun b => V.int (ixN' order b : Nat) := accMap (f := fun b => V.int (ixN' order b : Nat)) (by rw [hl, List.length_map]) hr'
        have k77 := k67.trans k7
        refine ⟨L, acc, rfl, .inl ⟨SqL.of hacc, fun p2 hp2 => ?_⟩⟩
        have h1 : upd H7 p2 (.tup acc) p1 = some (.tup [.str st.1.s]) := (sUp hp2) _ _ (k7 _ _ ((sUp hp') _ _ upd_same))
        refine ⟨p1, p2, [.str st.1.s], acc, rfl, rfl, SqT.of h1, SqT.of upd_same, le_line (by rw [hl, List.length_map]; simp; omega), fun z => (by cases z), fun _ z => ?_, fun _ _ p3 hp3 => ?_⟩
        · subst z
          have : st.2.length = 0 := by rw [← List.length_map (f := fun a => V.int (a : Nat)), ← hl]; rfl
          obtain ⟨t, _, h2⟩ := hrun.at hst
          rw [h2.ok.1] at this
          cases ho' : st.1 <;> rw [ho'] at this <;> simp [Op.ar] at this
        · have k8 := k77.trans ((sUp hp2).trans (sUp (o := .tup ([.str st.1.s] ++ acc)) hp3))
          refine ⟨rc, us', _, rfl, rfl, k8 _ _ hus', hus'l, _, _, rfl, fin _ _ k8 ?_⟩
          rw [renum_ne hh]
          refine ⟨p3, rfl, ?_⟩
          rw [upd_same, e1, List.map_map]
          rfl
  · obtain ⟨x3', x8, rfl, k5, tu5, us', hus', hst'⟩ := pp
    rw [holen, ← hS'l, List.take_length] at hst'
    have kH5 : Same H H5 := fun b o e => k5 _ _ (fun z => by
      subst z
      by_cases hz : b = d
      · subst hz; rw [hdn] at e; cases e
      · have := k3 _ _ hz e
        rw [hrc] at this
        cases this) (k4 _ _ (fun z => by subst z; rw [hdn] at e; cases e) e)
    refine ⟨_, rfl, rc, us', rfl, .inl ⟨SqL.of hus', fun p hp => q _ _ S' W' (kH5.trans (sUp hp)) ⟨p, us', rfl, upd_same, StVs.mono (sTups (sUp hp)) hst'⟩ hruns (by omega) (fun x hx => ?_) ?_⟩⟩
    · rw [← hW'] at hx
      obtain ⟨n, _, e⟩ := List.mem_filterMap.mp hx
      exact List.mem_of_getElem? e
    · have hlast : order[order.length - 1]? = some k := by
        obtain ⟨j, hj⟩ := List.getElem?_of_mem (hperm.mem_iff.mpr hk)
        have hjl := (List.getElem?_eq_some_iff.mp hj).1
        by_cases e : j = order.length - 1
        · rw [← e]; exact hj
        · exfalso
          obtain ⟨m, hm⟩ : ∃ m, order[order.length - 1]? = some m := ⟨_, List.getElem?_eq_getElem (by omega)⟩
          have h1 : k < m := by
            obtain ⟨h2, h3⟩ := List.getElem?_eq_some_iff.mp hj
            obtain ⟨h4, h5⟩ := List.getElem?_eq_some_iff.mp hm
            rw [← h3, ← h5]
            exact List.pairwise_iff_getElem.mp hlt j (order.length - 1) h2 h4 (by omega)
          have := hle m (hperm.mem_iff.mp (List.mem_of_getElem? hm))
          omega
      rw [hW'l, ← hW', fm_get hWs hlast]
      exact hWk
end
end Kt
/-! The walks: checks. -/
namespace Kt
open PySem PySem.Spec PyProof.Rows L2
open Tm
section
variable {P : Program} {w : World} {K : PySem.W.Frag} {mg : PySem.Str → Option Value} {base : Heap}
/-! ### the cook -/
def Mtd (K : PySem.W.Frag) (C : Addr) (m : PySem.Str) (st : Stmt) : Prop := ∃ (f : Addr) (fd : FuncData) (qual : PySem.Str), FunD K m qual (defArgs st) (defBody st) (defScope st) [] [] f fd ∧ Meth K C m f
theorem mkMet {C : Addr} {m : PySem.Str} {st : Stmt} {N ps : List PySem.Str} {k : Nat} {sp : Sp} (c : Cls K C) (D : Mtd K C m st)
    (hb : ∀ (qual : PySem.Str) (kV doc pm : Value) (an : Option Addr) (cdv ct : Value) (us : List Value), us.length = ps.length → bindArgs (PySem.W.fnOf m qual (defArgs st) (defBody st) (defScope st) .none kV doc pm an cdv ct) ⟨us, []⟩ = pure (ps.zip us))
    (S : FnScope N ps (defScope st)) (len : ∀ vs H Q E, sp vs H Q E → vs.length = ps.length)
    (hbody : ∀ (qual : PySem.Str) (cdv : Value) (A : Around) (outer : List Env) (s : Shared) (H : Hp) (vs : List V) (Q : VK) (E : XK) (f : Addr), Room k (A.deeper (envOfC qual (defScope st) s.heap.objs.size f cdv)) → sp vs H Q E →
      ∃ t, PSs (cxOf CX0 P w K mg base N qual (defScope st) f cdv A outer s H E).nox (defBody st) t ∧ t { nx := fun _ H' => Q .non H', rt := Q } (start N vs) H) : C8.Met P w K mg base (k + 1) C m sp [] := by
  obtain ⟨f, fd, qual, F, hm⟩ := D
  refine ⟨f, fd, ps, [], c, hm, F.ok S len fun cdv A outer s H vs Q E hr h => ?_, F.bindsN (hb qual), .nil⟩
  obtain ⟨t, h1, h2⟩ := hbody qual cdv A outer s H vs Q E f hr h
  exact ⟨t, h1.nox, h2⟩
def Mkr (K : PySem.W.Frag) (C : Addr) (st : Stmt) : Prop := ∃ (f : Addr) (fd : FuncData) (qual : PySem.Str), FunD K "__init__" qual (defArgs st) (defBody st) (defScope st) [] [] f fd ∧ Mk K C f
theorem mkMak {C : Addr} {x : PySem.Str} {st : Stmt} {N ps : List PySem.Str} {k : Nat} {sp : Sp} (D : Mkr K C st) (hm : mg x = some (.ref C))
    (hb : ∀ (qual : PySem.Str) (kV doc pm : Value) (an : Option Addr) (cdv ct : Value) (us : List Value), us.length = ps.length → bindArgs (PySem.W.fnOf "__init__" qual (defArgs st) (defBody st) (defScope st) .none kV doc pm an cdv ct) ⟨us, []⟩ = pure (ps.zip us))
    (S : FnScope N ps (defScope st)) (len : ∀ vs H Q E, sp vs H Q E → vs.length = ps.length)
    (hbody : ∀ (qual : PySem.Str) (cdv : Value) (A : Around) (outer : List Env) (s : Shared) (H : Hp) (vs : List V) (Q : VK) (E : XK) (f : Addr), Room k (A.deeper (envOfC qual (defScope st) s.heap.objs.size f cdv)) → sp vs H Q E →
      ∃ t, PSs (cxOf CX0 P w K mg base N qual (defScope st) f cdv A outer s H E).nox (defBody st) t ∧ t { nx := fun _ H' => Q .non H', rt := Q } (start N vs) H) : C8.Mak P w K mg base (k + 1) x C sp [] := by
  obtain ⟨f, fd, qual, F, hk⟩ := D
  refine ⟨f, fd, ps, [], hk, F.ok S len fun cdv A outer s H vs Q E hr h => ?_, hm, F.bindsN (hb qual), .nil⟩
  obtain ⟨t, h1, h2⟩ := hbody qual cdv A outer s H vs Q E f hr h
  exact ⟨t, h1.nox, h2⟩
/-- the class, as it stands behind the top -/
structure CkF (K : PySem.W.Frag) (C : Addr) : Prop where
  cl : Cls K C
  rows : NoAttr K C "rows"
  found : NoAttr K C "found"
  made : NoAttr K C "made"
theorem valV_putK {κ : Type} [DecidableEq κ] (l : List (κ × V)) (t u : κ) (v : V) : valV (putK l t v) u = if u = t then some v else valV l u := valV_put l t u v
/-- what the dict tells are places of the rows' terms -/
def Idx (W : List Tm) (l : List (Tm × V)) : Prop := (∀ t v, valV l t = some v → ∃ i : Nat, v = .int i ∧ W[i]? = some t) ∧ ∀ x ∈ W, WF NameOk x ∧ x.depth ≤ 5
theorem Idx.mono {W : List Tm} {s : Tm} {l : List (Tm × V)} (h : Idx W l) (hs : WF NameOk s ∧ s.depth ≤ 5) : Idx (W ++ [s]) l := ⟨fun t v e => by
  obtain ⟨i, h1, h2⟩ := h.1 t v e
  exact ⟨i, h1, by rw [List.getElem?_append_left (List.getElem?_eq_some_iff.mp h2).1]; exact h2⟩, fun x hx => by
  rcases List.mem_append.mp hx with hx | hx
  · exact h.2 x hx
  · rw [List.mem_singleton] at hx
    exact hx ▸ hs⟩
theorem Idx.put {W : List Tm} {l : List (Tm × V)} {t : Tm} {i : Nat} (h : Idx W l) (e : W[i]? = some t) : Idx W (putK l t (.int i)) := ⟨fun u v hv => by
  rw [valV_putK] at hv
  by_cases hu : u = t
  · rw [if_pos hu] at hv
    cases hv
    exact ⟨i, rfl, hu ▸ e⟩
  · rw [if_neg hu] at hv
    exact h.1 u v hv, h.2⟩
/-- a cook's own places -/
structure CA where
  (C c dx r fo ma : Addr)
def Ck (w : World) (a : CA) (hs : List Tm) (H : Hp) (S : List Step) (W : List Tm) (l m : List (Tm × V)) : Prop :=
  H a.c = some (.ins a.C a.dx [("rows", .ref a.r), ("found", .ref a.fo), ("made", .ref a.ma)]) ∧ (∃ us, H a.r = some (.lst us) ∧ StVs H S us) ∧ Runs hs S W ∧ TD w H a.fo l ∧ TD w H a.ma m ∧ a.fo ≠ a.ma ∧ Idx W l ∧ Idx W m
def CA.S (a : CA) (b : Addr) : Prop := b = a.r ∨ b = a.fo ∨ b = a.ma
theorem Ck.same {a : CA} {hs : List Tm} {H H' : Hp} {S : List Step} {W : List Tm} {l m : List (Tm × V)} (h : Ck w a hs H S W l m) (k : Same H H') : Ck w a hs H' S W l m := by
  obtain ⟨h1, ⟨us, h2, h3⟩, h4, h5, h6, h7, h8, h9⟩ := h
  exact ⟨k _ _ h1, ⟨us, k _ _ h2, StVs.mono (sTups k) h3⟩, h4, h5.same k, h6.same k, h7, h8, h9⟩
theorem Ck.notup {a : CA} {hs : List Tm} {H : Hp} {S : List Step} {W : List Tm} {l m : List (Tm × V)} (h : Ck w a hs H S W l m) : ∀ b, a.S b → ∀ xs, H b ≠ some (.tup xs) := by
  obtain ⟨h1, ⟨us, h2, h3⟩, h4, h5, h6, h7, h8, h9⟩ := h
  rintro b (rfl | rfl | rfl) xs
  · rw [h2]; exact fun z => by cases z
  · exact h5.notup xs
  · exact h6.notup xs
theorem Ck.tups {a : CA} {hs : List Tm} {H H' : Hp} {S : List Step} {W : List Tm} {l m : List (Tm × V)} (h : Ck w a hs H S W l m) (k : SamX a.S H H') : Tups H H' := k.tups h.notup
/-- no place of the cook's is a new one -/
theorem Ck.old {a : CA} {hs : List Tm} {H : Hp} {S : List Step} {W : List Tm} {l m : List (Tm × V)} (h : Ck w a hs H S W l m) : ∀ b, a.S b → H b ≠ none := by
  obtain ⟨h1, ⟨us, h2, h3⟩, h4, h5, h6, h7, h8, h9⟩ := h
  rintro b (rfl | rfl | rfl) e
  · rw [h2] at e; cases e
  · obtain ⟨o, ho⟩ := h5.some; rw [ho] at e; cases e
  · obtain ⟨o, ho⟩ := h6.some; rw [ho] at e; cases e
theorem Ck.c_out {a : CA} {hs : List Tm} {H : Hp} {S : List Step} {W : List Tm} {l m : List (Tm × V)} (h : Ck w a hs H S W l m) : ¬ a.S a.c := by
  obtain ⟨h1, ⟨us, h2, h3⟩, h4, h5, h6, h7, h8, h9⟩ := h
  rintro (e | e | e)
  · rw [e, h2] at h1; cases h1
  · obtain ⟨o, ep, e1, _⟩ := h5; rw [e, e1] at h1; cases h1
  · obtain ⟨o, ep, e1, _⟩ := h6; rw [e, e1] at h1; cases h1
abbrev N_Cook_add : List PySem.Str := ["self", "step"]
abbrev P_Cook_add : List PySem.Str := ["self", "step"]
theorem sc_Cook_add : FnScope N_Cook_add P_Cook_add (defScope s_Cook_add) := ⟨rfl, rfl, rfl, by decide +kernel, rfl, by decide +kernel, by decide +kernel⟩
def sp_Cook_add (C : Addr) : Sp := fun vs H Q _ => ∃ (a : CA) (hs : List Tm) (S : List Step) (W : List Tm) (l m : List (Tm × V)) (s : Step) (v : V) (t : Tm), vs = [.ref a.c, v] ∧ a.C = C ∧ Ck w a hs H S W l m ∧ StV H s v ∧ Pl hs W s t ∧ (WF NameOk t ∧ t.depth ≤ 5) ∧ S.length < 60000 ∧
  ∀ H', SamX a.S H H' → Ck w a hs H' (S ++ [s]) (W ++ [t]) l m → Q (.int S.length) H'
theorem c_Cook_add {C : Addr} (F : CkF K C) (D : Mtd K C "add" s_Cook_add) (T : Gs K mg w) : C8.Met P w K mg base 1 C "add" (sp_Cook_add (w := w) C) [] := by
  have sc := sc_Cook_add
  refine mkMet F.cl D (fun _ _ _ _ _ _ _ us hl => match us, hl with | [_, _], _ => rfl) sc (fun vs H Q E h => by obtain ⟨a, hs, S, W, l, m, s, v, t, rfl, _⟩ := h; rfl) fun qual cdv A outer s H vs Q E ff hr h => ?_
  obtain ⟨a, hs, S, W, l, m, st, v, t, rfl, rfl, hck, hst, hpl, hgt, h6, q⟩ := h
  have hck0 := hck
  obtain ⟨h1, ⟨us, h2, h3⟩, h4, h5, h6', h7, h8, h9⟩ := hck
  have hul : us.length = S.length := (Paired.length h3).symm
  refine ⟨_, (pss_cons (ps_expr (pe_bm PySem.F.plainAttrs_list PySem.F.slot_list_append PySem.F.type_list_append mt_append (pe_fld (pv 0) rfl) (pa_cons (pv 1) pa_nil))) (pss_one (ps_ret (pe_op op_sub (pe_callB call_len_seq rfl T.len (by decide +kernel) (pa_cons (pe_fld (pv 0) rfl) pa_nil)) pe_int)))), ?_⟩
  have hcr : a.c ≠ a.r := fun z => by rw [z, h2] at h1; cases h1
  refine ⟨_, rfl, a.c, a.C, a.dx, _, _, rfl, h1, F.cl, F.rows, rfl, .inl ⟨rfl, _, SqL.of h2⟩, _, rfl, a.r, us, v, rfl, rfl, h2, lt_line (by omega), _, rfl, a.c, a.C, a.dx, _, _, rfl, (upd_ne hcr).trans h1, F.cl, F.rows, rfl, a.r, _, rfl, .inl (SqL.of upd_same), _, _, rfl, rfl, ?_⟩
  have tu : Tups H (upd H a.r (.lst (us ++ [v]))) := tups_up (fun xs e => by rw [h2] at e; cases e)
  have k : SamX a.S H (upd H a.r (.lst (us ++ [v]))) := fun b o n e => (upd_ne (fun z => n (.inl z))).trans e
  have hfr : a.fo ≠ a.r := fun z => h5.nolst (z ▸ h2)
  have hmr : a.ma ≠ a.r := fun z => h6'.nolst (z ▸ h2)
  have e : V.int (((us ++ [v]).length : Int) - 1) = .int S.length := by
    rw [List.length_append, hul]
    simp
  have := q _ k ⟨(upd_ne hcr).trans h1, ⟨_, upd_same, paired_app (StVs.mono tu h3) (.cons (hst.mono tu) .nil)⟩, .snoc h4 hpl, h5.mono tu fun o e => (upd_ne hfr).trans e, h6'.mono tu fun o e => (upd_ne hmr).trans e, h7, h8.mono hgt, h9.mono hgt⟩
  rw [← e] at this
  exact this
abbrev N_Cook_keep : List PySem.Str := ["self", "term", "step"]
abbrev P_Cook_keep : List PySem.Str := ["self", "term", "step"]
theorem sc_Cook_keep : FnScope N_Cook_keep P_Cook_keep (defScope s_Cook_keep) := ⟨rfl, rfl, rfl, by decide +kernel, rfl, by decide +kernel, by decide +kernel⟩
def sp_Cook_keep (C : Addr) : Sp := fun vs H Q _ => ∃ (a : CA) (hs : List Tm) (S : List Step) (W : List Tm) (l m : List (Tm × V)) (s : Step) (sv v : V) (t : Tm), vs = [.ref a.c, v, sv] ∧ a.C = C ∧ Ck w a hs H S W l m ∧ TmV H t v ∧ (WF NameOk t ∧ t.depth ≤ 5) ∧ StV H s sv ∧ Pl hs W s t ∧ S.length < 60000 ∧ l.length ≤ 1000 ∧
  ∀ H' S' W' l', SamX a.S H H' → Ck w a hs H' S' W' l' m → W <+: W' → l'.map (·.1) = ins (l.map (·.1)) t → S'.length + l.length = S.length + l'.length → Q .non H'
theorem ins_len {l : List Tm} {t : Tm} (h : t ∉ l) : (ins l t).length = l.length + 1 := by
  unfold ins
  rw [if_neg h, List.length_append]; rfl
theorem c_Cook_keep {C : Addr} (F : CkF K C) (D : Mtd K C "keep" s_Cook_keep) (T : Gs K mg w) (c_Cook_add : C8.Met P w K mg base 1 C "add" (sp_Cook_add (w := w) C) []) : C8.Met P w K mg base 2 C "keep" (sp_Cook_keep (w := w) C) [] := by
  have sc := sc_Cook_keep
  refine mkMet F.cl D (fun _ _ _ _ _ _ _ us hl => match us, hl with | [_, _, _], _ => rfl) sc (fun vs H Q E h => by obtain ⟨a, hs, S, W, l, m, s, sv, v, t, rfl, _⟩ := h; rfl) fun qual cdv A outer s H vs Q E ff hr h => ?_
  obtain ⟨a, hs, S, W, l, m, st, sv, v, t, rfl, rfl, hck, ht, hgt, hst, hpl, h6, hl1000, q⟩ := h
  have h8' : t.depth ≤ 8 := by have := hgt.2; omega
  have hck0 := hck
  obtain ⟨h1, ⟨us, h2, h3⟩, h4, h5, h6', h7, h8, h9⟩ := hck
  refine ⟨_, (pss_one (ps_if (pt_cmpR (op_notInTd hr.units) (pv 1) (pe_fld (pv 0) rfl) rfl) (pss_one (ps_asg (C8.pe_mt c_Cook_add hr (by first | decide | omega) (pv 0) (pa_cons (pv 2) pa_nil)) (pg_sub (pe_fld (pv 0) rfl) (pv 1) (set_td hr.units)))) pss_nil)), ?_⟩
  refine ⟨_, rfl, _, rfl, a.c, a.C, a.dx, _, _, rfl, h1, F.cl, F.found, rfl, a.fo, l, t, rfl, h5, ht, h8', _, rfl, ?_⟩
  by_cases hm : t ∈ l.map (·.1)
  · refine ifF (by rw [decide_eq_true hm]; rfl) (q H S W l (SamX.refl _ _) hck0 List.prefix_rfl ?_ rfl)
    exact (if_pos hm).symm
  · refine ifT (by rw [decide_eq_false hm]; rfl) ⟨_, rfl, a.c, a.dx, _, rfl, h1, rfl, _, rfl, a, hs, S, W, l, m, st, sv, t, rfl, rfl, hck0, hst, hpl, hgt, h6, fun H1 k1 hck1 => ?_⟩
    have hck1' := hck1
    obtain ⟨g1, ⟨us1, g2, g3⟩, g4, g5, g6, g7, g8, g9⟩ := hck1
    refine ⟨_, rfl, a.c, a.C, a.dx, _, _, rfl, g1, F.cl, F.found, rfl, _, rfl, a.fo, l, t, rfl, g5, lt_line (by omega), ht.mono (hck0.tups k1), h8', fun H2 hput => ?_⟩
    have k2 := putTd_sam hput
    have hne : valV l t = none := valV_none_iff.mpr hm
    have hcf : a.c ≠ a.fo := fun z => hck0.c_out (.inr (.inl z))
    have hrf : a.r ≠ a.fo := fun z => g5.nolst (z ▸ g2)
    have tu : Tups H1 H2 := k2.tups fun b e => by subst e; exact g5.notup
    refine q H2 (S ++ [st]) (W ++ [t]) (putK l t (.int S.length)) (k1.trans fun b o n e => k2 _ _ (fun z => n (.inr (.inl z))) e) ⟨k2 _ _ hcf g1, ⟨us1, k2 _ _ hrf g2, StVs.mono tu g3⟩, g4, hput.1, g6.mono tu fun o e => k2 _ _ (Ne.symm g7) e, g7, g8.put ?_, g9⟩ (List.prefix_append _ _) keys_putK ?_
    · rw [h4.len]
      simp
    · have e1 : (putK l t (.int S.length)).length = l.length + 1 := by
        rw [putK_new _ hne, List.length_append]; rfl
      rw [e1, List.length_append]
      simp; omega
/-- a set in which the cook makes -/
structure Univ (M : List Tm) : Prop where
  pcs : ∀ t ∈ M, ∀ p ∈ pieces t, p ∈ M
  len : M.length ≤ 5000
  ok : ∀ t ∈ M, WF NameOk t ∧ t.depth ≤ 5
theorem Univ.kid {M : List Tm} (h : Univ M) {t k : Tm} (ht : t ∈ M) (hk : k ∈ t.kids) : k ∈ M := by
  cases t with
  | nm x => cases hk
  | un g a => exact h.pcs _ ht k hk
  | bi g a b =>
    cases g with
    | pair => exact h.pcs _ ht k hk
    | box => exact h.pcs _ ht k hk
    | mark => exact h.pcs _ ht k hk
    | shut =>
      have e : k = a ∨ k = b := by simpa [Tm.kids] using hk
      rcases e with e | e
      · subst e
        exact h.pcs _ (h.pcs _ ht (.un .half k) (by simp [pieces])) k (by simp [pieces])
      · subst e
        exact h.pcs _ ht k (by simp [pieces])
def keysIn (m : List (Tm × V)) (M : List Tm) : Prop := ∀ x ∈ m.map (·.1), x ∈ M
theorem keysIn_len {M : List Tm} {m : List (Tm × V)} {H : Hp} {d : Addr} (h : keysIn m M) (hM : Univ M) (hd : TD w H d m) : m.length ≤ 5000 := by
  have := nodup_len hd.nodup h
  rw [List.length_map] at this
  have := hM.len
  omega
/-- the operation that builds a term -/
def opOf : Tm → Op
  | .nm _ => .heard
  | .un g _ => .un g
  | .bi g _ _ => .bi g
theorem pl_build {hs W : List Tm} {t : Tm} {ix : List Nat} (hw : WF NameOk t) (nn : t.isNm = false) (h : Paired (fun (i : Nat) (p : Tm) => W[i]? = some p) ix (pieces t)) : Pl hs W (opOf t, ix) t := by
  cases t with
  | nm x => cases nn
  | un g a =>
    cases h with
    | cons h1 h2 =>
    cases h2
    cases g with
    | half => obtain ⟨x, rfl, _⟩ := hw; exact .half h1
    | mix => exact .mix h1
  | bi g a b =>
    cases g with
    | pair =>
      cases h with
      | cons h1 h2 =>
      cases h2 with
      | cons h2 h3 => cases h3; exact .pair h1 h2
    | box =>
      cases h with
      | cons h1 h2 =>
      cases h2 with
      | cons h2 h3 => cases h3; exact .box h1 h2
    | mark =>
      obtain ⟨⟨x, rfl, _⟩, _⟩ := hw
      cases h with
      | cons h1 h2 =>
      cases h2 with
      | cons h2 h3 => cases h3; exact .mark h1 h2
    | shut =>
      obtain ⟨⟨x, rfl, _⟩, _⟩ := hw
      cases h with
      | cons h1 h2 =>
      cases h2 with
      | cons h2 h3 => cases h3; exact .shut h1 h2
theorem opOf_s {t : Tm} (nn : t.isNm = false) : (opOf t).s = t.hd := by
  cases t with
  | nm x => cases nn
  | un g a => rfl
  | bi g a b => rfl
def sp_Cook_make (C : Addr) (n : Nat) : Sp := fun vs H Q _ => ∃ (a : CA) (hs : List Tm) (S : List Step) (W : List Tm) (l m : List (Tm × V)) (v : V) (t : Tm) (M : List Tm), vs = [.ref a.c, v] ∧ a.C = C ∧ Ck w a hs H S W l m ∧ TmV H t v ∧ t ∈ M ∧ Univ M ∧ keysIn m M ∧ built (l.map (·.1)) t = true ∧ rk t ≤ n ∧ S.length = l.length + m.length ∧ l.length ≤ 63 ∧
  ∀ H' S' W' m' (i : Nat), SamX a.S H H' → Ck w a hs H' S' W' l m' → W <+: W' → keysIn m' M → (∀ u ∈ m'.map (·.1), u ∈ m.map (·.1) ∨ rk u ≤ rk t) → S'.length = l.length + m'.length → W'[i]? = some t → Q (.int i) H'
def sp_Cook_build (C : Addr) (n : Nat) : Sp := fun vs H Q _ => ∃ (a : CA) (hs : List Tm) (S : List Step) (W : List Tm) (l m : List (Tm × V)) (v : V) (t : Tm) (M : List Tm), vs = [.ref a.c, v] ∧ a.C = C ∧ Ck w a hs H S W l m ∧ TmV H t v ∧ t ∈ M ∧ Univ M ∧ keysIn m M ∧ t.isNm = false ∧ (∀ p ∈ pieces t, built (l.map (·.1)) p = true) ∧ rk t ≤ n ∧ S.length = l.length + m.length ∧ l.length ≤ 63 ∧
  ∀ H' S' W' m' (i : Nat), SamX a.S H H' → Ck w a hs H' S' W' l m' → W <+: W' → keysIn m' M → (∀ u ∈ m'.map (·.1), u ∈ m.map (·.1) ∨ rk u < rk t) → S'.length = l.length + m'.length + 1 → W'[i]? = some t → Q (.int i) H'
abbrev N_Cook_build : List PySem.Str := ["self", "term", "piece"]
abbrev P_Cook_build : List PySem.Str := ["self", "term"]
theorem sc_Cook_build : FnScope N_Cook_build P_Cook_build (defScope s_Cook_build) := ⟨rfl, rfl, rfl, by decide +kernel, rfl, by decide +kernel, by decide +kernel⟩
theorem c_Cook_build {C : Addr} (n : Nat) (F : CkF K C) (D : Mtd K C "build" s_Cook_build) (T : Gs K mg w) (c_Cook_add : C8.Met P w K mg base 1 C "add" (sp_Cook_add (w := w) C) []) (c_pieces : C8.Cal P w K mg base 1 "pieces" sp_pieces [])
    (c_Cook_make : C8.Met P w K mg base (2 * n + 1) C "make" (sp_Cook_make (w := w) C n) []) : C8.Met P w K mg base (2 * n + 2) C "build" (sp_Cook_build (w := w) C (n + 1)) [] := by
  have sc := sc_Cook_build
  refine mkMet F.cl D (fun _ _ _ _ _ _ _ us hl => match us, hl with | [_, _], _ => rfl) sc (fun vs H Q E h => by obtain ⟨a, hs, S, W, l, m, v, t, M, rfl, _⟩ := h; rfl) fun qual cdv A outer s H vs Q E ff hr h => ?_
  obtain ⟨a, hs, S, W, l, m, v, t, M, rfl, rfl, hck, ht, htM, hM, hmM, nn, hb, hrk, hcnt, hl63, q⟩ := h
  obtain ⟨p, ks, rfl, hp, hks⟩ := tm_tup ht nn
  refine ⟨_, (pss_one (ps_ret (C8.pe_mt c_Cook_add hr (by first | decide | omega) (pv 0) (pa_cons (pe_op op_catA (pe_tup (pa_cons (pe_ix ix_tup (pv 1) pe_int (fun _ _ => rfl)) pa_nil)) (pe_callTy call_tuple_of rfl T.tuple (by decide +kernel) (pa_cons (pe_lc (own := [("piece", 2)]) (g := gName 2) (tt := tYes) rfl sc.nd (pi_tup (C8.pe_c c_pieces hr (by first | decide | omega) rfl (pa_cons (pv 1) pa_nil))) (blkOk_by (N := N_Cook_build) (sc := defScope s_Cook_build) (by decide +kernel)) (fun _ _ _ _ _ => (pg_name (i := 2) sc.nd rfl (Or.inl rfl))) (fun _ _ _ _ _ => pts_nil) (fun _ _ _ _ _ => (C8.pe_mt c_Cook_make hr (by first | decide | omega) (pv 0) (pa_cons (pv 2) pa_nil)))) pa_nil))) pa_nil)))), ?_⟩
  have htok := hM.ok t htM
  have hplen : (pieces t).length ≤ 2 := by
    cases t with
    | nm x => cases nn
    | un g a => exact Nat.le_succ _
    | bi g a b => cases g <;> exact Nat.le_refl _
  refine ⟨_, rfl, a.c, a.dx, _, rfl, hck.1, rfl, _, rfl, _, _, _, _, rfl, rfl, SqT.of (hp), at0, by show 1 ≤ sizeLine; decide, fun p1 hp1 => ⟨_, rfl, .ref p, t, rfl, ht.same (sUp hp1), nn, fun p2 H2 pvs k2 hp2 hpvs => ⟨p2, rfl, ⟨_, SqT.of hp2⟩, fun L hL => ?_⟩⟩⟩
  have k02 : Same H H2 := (sUp hp1).trans k2
  have hck2 := hck.same k02
  have hpl : pvs.length = (pieces t).length := (Paired.length hpvs).symm
  have hLS : ¬ a.S L := fun s => hck2.old L s hL
  have hp2S : ¬ a.S p2 := fun s => hck2.notup p2 s _ hp2
  have hLp2 : p2 ≠ L := fun z => by subst z; rw [hp2] at hL; cases hL
  have hp1S : ¬ a.S p1 := fun s => hck.old p1 s hp1
  have hp1H2 : H2 p1 = some (.tup [.str t.hd]) := k2 _ _ upd_same
  have hLp1 : p1 ≠ L := fun z => by subst z; rw [hp1H2] at hL; cases hL
  refine lc_it walk_tup (fun i H' => SamX (fun b => a.S b ∨ b = L) H2 H' ∧ Tups H2 H' ∧ ∃ S' W' m' acc, Ck w a hs H' S' W' l m' ∧ W <+: W' ∧ keysIn m' M ∧ (∀ u ∈ m'.map (·.1), u ∈ m.map (·.1) ∨ rk u < rk t) ∧ S'.length = l.length + m'.length ∧ H' L = some (.lst (acc.map fun i : Nat => V.int (i : Nat))) ∧ Paired (fun (i : Nat) (p : Tm) => W'[i]? = some p) acc ((pieces t).take i))
    ⟨(SamX.refl _ _).up hL, sTups (sUp hL), S, W, m, [], hck2.same (sUp hL), List.prefix_rfl, hmM, fun u hu => .inl hu, hcnt, upd_same, .nil⟩ (fun i H' _ pp => SqT.of (pp.1 _ _ (fun s => s.elim hp2S hLp2) hp2)) (fun i x H3 H4 hi pp y => ?_) (fun H3 pp => ?_)
  · obtain ⟨rfl, hy⟩ := y
    obtain ⟨k3, tu3, S', W', m', acc, hck3, hWW, hmM3, hnew, hcnt3, hL3, hacc⟩ := pp
    obtain ⟨kt, hkt⟩ : ∃ kt, (pieces t)[i]? = some kt := ⟨_, List.getElem?_eq_getElem (by omega)⟩
    obtain ⟨y', hy', hty⟩ := paired_at hpvs hkt
    have e : y' = x := by rw [hy] at hy'; exact (Option.some.inj hy').symm
    subst e
    have hmem := List.mem_of_getElem? hkt
    have hrkp := rk_piece hmem
    have hcl : acc.length = ((pieces t).take i).length := Paired.length hacc
    refine ⟨rfl, _, rfl, a.c, a.dx, _, rfl, hck3.1, rfl, _, rfl, a, hs, S', W', l, m', y', kt, M, rfl, rfl, hck3, hty.mono tu3, hM.pcs t htM kt hmem, hM, hmM3, hb kt hmem, by omega, hcnt3, hl63, fun H5 S5 W5 m5 ix k5 hck5 hW5 hm5 hnew5 hcnt5 hix => ?_⟩
    have hL5 := k5 _ _ hLS hL3
    have tu5 := hck3.tups k5
    have kup : SamX (fun b => a.S b ∨ b = L) H5 (upd H5 L (.lst ((acc.map fun i : Nat => V.int (i : Nat)) ++ [V.int ix]))) := fun b o n e => (upd_ne fun z => n (.inr z)).trans e
    have tup : Tups H5 (upd H5 L (.lst ((acc.map fun i : Nat => V.int (i : Nat)) ++ [V.int ix]))) := tups_up (fun xs e => by rw [hL5] at e; cases e)
    have hckup : Ck w a hs (upd H5 L (.lst ((acc.map fun i : Nat => V.int (i : Nat)) ++ [V.int ix]))) S5 W5 l m5 := by
      obtain ⟨g1, ⟨us1, g2, g3⟩, g4, g5, g6, g7, g8, g9⟩ := hck5
      have nL : ∀ b o, H5 b = some o → (∀ xs, o ≠ .lst xs) → b ≠ L := fun b o e n z => by
        subst z
        rw [hL5] at e
        exact n _ (Option.some.inj e).symm
      refine ⟨(upd_ne (nL _ _ g1 fun xs z => by cases z)).trans g1, ⟨us1, (upd_ne fun z => hLS (.inl z.symm)).trans g2, StVs.mono tup g3⟩, g4, g5.mono tup fun o e => (upd_ne fun z => hLS (.inr (.inl z.symm))).trans e, g6.mono tup fun o e => (upd_ne fun z => hLS (.inr (.inr z.symm))).trans e, g7, g8, g9⟩
    refine ⟨acc.map fun i : Nat => V.int (i : Nat), hL5, lt_line (by rw [List.length_map, hcl, List.length_take]; omega), k3.trans ((show SamX (fun b => a.S b ∨ b = L) H4 H5 from fun b o n e => k5 _ _ (fun s => n (.inl s)) e).trans kup), tu3.trans (tu5.trans tup), S5, W5, m5, acc ++ [ix], hckup, hWW.trans hW5, hm5, fun u hu => ?_, hcnt5, by rw [upd_same, List.map_append]; rfl, ?_⟩
    · rcases hnew5 u hu with h | h
      · exact hnew u h
      · exact .inr (by omega)
    · rw [List.take_succ, hkt]
      refine paired_app (Paired.mapP hacc fun j p e => ?_) (.cons hix .nil)
      obtain ⟨r, rfl⟩ := hW5
      rw [List.getElem?_append_left (List.getElem?_eq_some_iff.mp e).1]
      exact e
  · obtain ⟨k3, tu3, S', W', m', acc, hck3, hWW, hmM3, hnew, hcnt3, hL3, hacc⟩ := pp
    rw [hpl, List.take_length] at hacc
    have hal : acc.length = (pieces t).length := Paired.length hacc
    refine ⟨L, _, rfl, .inl ⟨SqL.of hL3, fun p4 hp4 => ?_⟩⟩
    have h1 : upd H3 p4 (.tup (acc.map fun i : Nat => V.int (i : Nat))) p1 = some (.tup [.str t.hd]) := (sUp hp4) _ _ (k3 _ _ (fun s => s.elim hp1S hLp1) hp1H2)
    refine ⟨p1, p4, [.str t.hd], _, rfl, rfl, SqT.of h1, SqT.of upd_same, le_line (by rw [List.length_map]; simp; omega), fun z => (by cases z), fun _ z => ?_, fun _ _ p5 hp5 => ?_⟩
    · have h0 : acc.length = 0 := by
        have := congrArg List.length z
        simpa using this
      exfalso
      cases t with
      | nm x => cases nn
      | un g a => rw [h0] at hal; cases hal
      | bi g a b => cases g <;> (rw [h0] at hal; cases hal)
    · have k35 : Same H3 _ := (sUp (o := .tup (acc.map fun i : Nat => V.int (i : Nat))) hp4).trans (sUp (o := .tup ([V.str t.hd] ++ acc.map fun i : Nat => V.int (i : Nat))) hp5)
      have hck5 := hck3.same k35
      have hlm := keysIn_len hmM3 hM hck3.2.2.2.2.1
      refine ⟨a, hs, S', W', l, m', (opOf t, acc), .ref p5, t, rfl, rfl, hck5, ⟨p5, rfl, ?_⟩, pl_build htok.1 nn hacc, htok, by omega, fun H6 k6 hck6 => ?_⟩
      · rw [upd_same, opOf_s nn]
        rfl
      · have hSL : SamX a.S H H6 := fun b o n e => k6 _ _ n (k35 _ _ (k3 _ _ (fun s => s.elim n fun z => by
          subst z
          have := k02 _ _ e
          rw [hL] at this
          cases this) (k02 _ _ e)))
        have hlen3 := hck3.2.2.1.len
        refine q H6 _ _ m' S'.length hSL hck6 (hWW.trans (List.prefix_append _ _)) hmM3 hnew (by rw [List.length_append, hcnt3]; rfl) ?_
        rw [hlen3]
        simp
end
end Kt
/-! The walks: checks. -/
namespace Kt
open PySem PySem.Spec PyProof.Rows L2
open Tm
section
variable {P : Program} {w : World} {K : PySem.W.Frag} {mg : PySem.Str → Option Value} {base : Heap}
/-! ### the cook: make -/
abbrev N_Cook_make : List PySem.Str := ["self", "term"]
abbrev P_Cook_make : List PySem.Str := ["self", "term"]
theorem sc_Cook_make : FnScope N_Cook_make P_Cook_make (defScope s_Cook_make) := ⟨rfl, rfl, rfl, by decide +kernel, rfl, by decide +kernel, by decide +kernel⟩
theorem built_parts {F : List Tm} {t : Tm} (h : built F t = true) (hn : t ∉ F) : t.isNm = false ∧ ∀ p ∈ pieces t, built F p = true := by
  rw [built_eq, decide_eq_false hn, Bool.false_or, Bool.and_eq_true, Bool.not_eq_true'] at h
  exact ⟨h.1, fun p hp => List.all_eq_true.mp h.2 p hp⟩
theorem putK_len' {l : List (Tm × V)} {t : Tm} {v : V} (h : t ∉ l.map (·.1)) : (putK l t v).length = l.length + 1 := by
  rw [putK_new _ (valV_none_iff.mpr h), List.length_append]; rfl
theorem c_Cook_make {C : Addr} (F : CkF K C) (D : Mtd K C "make" s_Cook_make) (DB : Mtd K C "build" s_Cook_build) (T : Gs K mg w) (c_Cook_add : C8.Met P w K mg base 1 C "add" (sp_Cook_add (w := w) C) []) (c_pieces : C8.Cal P w K mg base 1 "pieces" sp_pieces []) : ∀ n, C8.Met P w K mg base (2 * n + 1) C "make" (sp_Cook_make (w := w) C n) [] := by
  have sc := sc_Cook_make
  intro n
  induction n with
  | zero =>
    refine mkMet F.cl D (fun _ _ _ _ _ _ _ us hl => match us, hl with | [_, _], _ => rfl) sc (fun vs H Q E h => by obtain ⟨a, hs, S, W, l, m, v, t, M, rfl, _⟩ := h; rfl) fun qual cdv A outer s H vs Q E ff hr h => ?_
    obtain ⟨a, hs, S, W, l, m, v, t, M, rfl, rfl, _, _, _, _, _, _, h0, _⟩ := h
    exact absurd (rk_pos t) (by omega)
  | succ n ih =>
    have c_Cook_build := c_Cook_build n F DB T c_Cook_add c_pieces ih
    refine mkMet (k := 2 * n + 2) F.cl D (fun _ _ _ _ _ _ _ us hl => match us, hl with | [_, _], _ => rfl) sc (fun vs H Q E h => by obtain ⟨a, hs, S, W, l, m, v, t, M, rfl, _⟩ := h; rfl) fun qual cdv A outer s H vs Q E ff hr h => ?_
    obtain ⟨a, hs, S, W, l, m, v, t, M, rfl, rfl, hck, ht, htM, hM, hmM, hb, hrk, hcnt, hl63, q⟩ := h
    refine ⟨_, (pss_cons (ps_if (pt_cmpR (op_inTd hr.units) (pv 1) (pe_fld (pv 0) rfl) rfl) (pss_one (ps_ret (pe_tdget hr.units (pe_fld (pv 0) rfl) (pv 1) (fun _ _ => rfl)))) pss_nil) (pss_cons (ps_if (pt_cmpR (op_notInTd hr.units) (pv 1) (pe_fld (pv 0) rfl) rfl) (pss_one (ps_asg (C8.pe_mt c_Cook_build hr (by first | decide | omega) (pv 0) (pa_cons (pv 1) pa_nil)) (pg_sub (pe_fld (pv 0) rfl) (pv 1) (set_td hr.units)))) pss_nil) (pss_one (ps_ret (pe_tdget hr.units (pe_fld (pv 0) rfl) (pv 1) (fun _ _ => rfl)))))), ?_⟩
    have htok := hM.ok t htM
    have h8 : t.depth ≤ 8 := by omega
    have hck0 := hck
    obtain ⟨g1, ⟨us1, g2, g3⟩, g4, g5, g6, g7, g8, g9⟩ := hck
    refine ⟨_, rfl, _, rfl, a.c, a.C, a.dx, _, _, rfl, g1, F.cl, F.found, rfl, a.fo, l, t, rfl, g5, ht, h8, _, rfl, ?_⟩
    by_cases hm : t ∈ l.map (·.1)
    · obtain ⟨u, hu⟩ : ∃ u, valV l t = some u := by
        cases e : valV l t with
        | none => exact (valV_none_iff.mp e hm).elim
        | some u => exact ⟨u, rfl⟩
      obtain ⟨i, rfl, hi⟩ := g8.1 t u hu
      exact ifT (decide_eq_true hm) ⟨_, rfl, a.c, a.C, a.dx, _, _, rfl, g1, F.cl, F.found, rfl, _, rfl, a.fo, l, t, _, rfl, g5, ht, h8, hu, q H S W m i (SamX.refl _ _) hck0 List.prefix_rfl hmM (fun u hu => .inl hu) hcnt hi⟩
    · refine ifF (decide_eq_false hm) ⟨_, rfl, _, rfl, a.c, a.C, a.dx, _, _, rfl, g1, F.cl, F.made, rfl, a.ma, m, t, rfl, g6, ht, h8, _, rfl, ?_⟩
      by_cases hmm : t ∈ m.map (·.1)
      · obtain ⟨u, hu⟩ : ∃ u, valV m t = some u := by
          cases e : valV m t with
          | none => exact (valV_none_iff.mp e hmm).elim
          | some u => exact ⟨u, rfl⟩
        obtain ⟨i, rfl, hi⟩ := g9.1 t u hu
        exact ifF (by rw [decide_eq_true hmm]; rfl) ⟨_, rfl, a.c, a.C, a.dx, _, _, rfl, g1, F.cl, F.made, rfl, _, rfl, a.ma, m, t, _, rfl, g6, ht, h8, hu, q H S W m i (SamX.refl _ _) hck0 List.prefix_rfl hmM (fun u hu => .inl hu) hcnt hi⟩
      · obtain ⟨nn, hparts⟩ := built_parts hb hm
        refine ifT (by rw [decide_eq_false hmm]; rfl) ⟨_, rfl, a.c, a.dx, _, rfl, g1, rfl, _, rfl, a, hs, S, W, l, m, v, t, M, rfl, rfl, hck0, ht, htM, hM, hmM, nn, hparts, by omega, hcnt, hl63, fun H1 S1 W1 m1 i k1 hck1 hW1 hm1 hnew1 hcnt1 hi => ?_⟩
        have hck1' := hck1
        obtain ⟨f1, ⟨us2, f2, f3⟩, f4, f5, f6, f7, f8, f9⟩ := hck1
        have ht1 := ht.mono (hck0.tups k1)
        have hlm := keysIn_len hm1 hM f6
        have htm1 : t ∉ m1.map (·.1) := fun h => by
          rcases hnew1 t h with h | h
          · exact hmm h
          · omega
        refine ⟨_, rfl, a.c, a.C, a.dx, _, _, rfl, f1, F.cl, F.made, rfl, _, rfl, a.ma, m1, t, rfl, f6, lt_line (by omega), ht1, h8, fun H2 hput => ?_⟩
        have k2 := putTd_sam hput
        have hcm : a.c ≠ a.ma := fun z => hck0.c_out (.inr (.inr z))
        have hrm : a.r ≠ a.ma := fun z => f6.nolst (z ▸ f2)
        have tu : Tups H1 H2 := k2.tups fun b e => by subst e; exact f6.notup
        have k12 : SamX a.S H H2 := k1.trans fun b o n e => k2 _ _ (fun z => n (.inr (.inr z))) e
        have hck2 : Ck w a hs H2 S1 W1 l (putK m1 t (.int i)) := ⟨k2 _ _ hcm f1, ⟨us2, k2 _ _ hrm f2, StVs.mono tu f3⟩, f4, f5.mono tu fun o e => k2 _ _ f7 e, hput.1, f7, f8, f9.put hi⟩
        have hget : valV (putK m1 t (.int i)) t = some (.int i) := by rw [valV_putK, if_pos rfl]
        refine ⟨_, rfl, a.c, a.C, a.dx, _, _, rfl, hck2.1, F.cl, F.made, rfl, _, rfl, a.ma, _, t, _, rfl, hput.1, ht1.mono tu, h8, hget, q H2 S1 W1 _ i k12 hck2 hW1 (fun x hx => ?_) (fun x hx => ?_) ?_ hi⟩
        · rw [keys_putK, mem_ins] at hx
          exact hx.elim (hm1 x) fun e => e ▸ htM
        · rw [keys_putK, mem_ins] at hx
          rcases hx with h | h
          · rcases hnew1 x h with h | h
            · exact .inl h
            · exact .inr (by omega)
          · exact .inr (by rw [h]; exact Nat.le_refl _)
        · rw [putK_len' htm1]; omega
/-! ### the cook: unlock -/
abbrev N_Cook_unlock : List PySem.Str := ["self", "term", "at"]
abbrev P_Cook_unlock : List PySem.Str := ["self", "term"]
theorem sc_Cook_unlock : FnScope N_Cook_unlock P_Cook_unlock (defScope s_Cook_unlock) := ⟨rfl, rfl, rfl, by decide +kernel, rfl, by decide +kernel, by decide +kernel⟩
structure InU (U M : List Tm) : Prop where
  len : U.length < 64
  kids : KidsIn U
  sub : ∀ x ∈ U, x ∈ M
theorem keysIn_len63 {U M : List Tm} {l : List (Tm × V)} {H : Hp} {d : Addr} (h : keysIn l U) (hU : InU U M) (hd : TD w H d l) : l.length ≤ 63 := by
  have := nodup_len hd.nodup h
  rw [List.length_map] at this
  have := hU.len
  omega
def sp_Cook_unlock (C : Addr) : Sp := fun vs H Q _ => ∃ (a : CA) (hs : List Tm) (S : List Step) (W : List Tm) (l m : List (Tm × V)) (v : V) (t : Tm) (U M : List Tm), vs = [.ref a.c, v] ∧ a.C = C ∧ Ck w a hs H S W l m ∧ TmV H t v ∧ t ∈ l.map (·.1) ∧ keysIn l U ∧ InU U M ∧ Univ M ∧ keysIn m M ∧ S.length = l.length + m.length ∧
  ∀ H' S' W' l' m', SamX a.S H H' → Ck w a hs H' S' W' l' m' → l'.map (·.1) = opn (l.map (·.1)) t → keysIn m' M → S'.length = l'.length + m'.length → Q .non H'
theorem opn_box {F : List Tm} {g : G2} {a b : Tm} (hg : g = .box ∨ g = .shut) : opn F (.bi g a b) = if built F a = true then ins F b else F := by
  unfold opn
  have : openings F (.bi g a b) = if built F a = true then [b] else [] := by rcases hg with rfl | rfl <;> rfl
  rw [this]
  split <;> rfl
theorem c_Cook_unlock {C : Addr} (F : CkF K C) (D : Mtd K C "unlock" s_Cook_unlock) (T : Gs K mg w) (c_Cook_keep : C8.Met P w K mg base 2 C "keep" (sp_Cook_keep (w := w) C) []) (c_is_built : C8.Cal P w K mg base 9 "is_built" (sp_is_built (w := w) 7) []) (c_Cook_make : C8.Met P w K mg base 15 C "make" (sp_Cook_make (w := w) C 7) []) : C8.Met P w K mg base 16 C "unlock" (sp_Cook_unlock (w := w) C) [] := by
  have sc := sc_Cook_unlock
  refine mkMet F.cl D (fun _ _ _ _ _ _ _ us hl => match us, hl with | [_, _], _ => rfl) sc (fun vs H Q E h => by obtain ⟨a, hs, S, W, l, m, v, t, U, M, rfl, _⟩ := h; rfl) fun qual cdv A outer s H vs Q E ff hr h => ?_
  obtain ⟨a, hs, S, W, l, m, v, t, U, M, rfl, rfl, hck, ht, htl, hlU, hU, hM, hmM, hcnt, q⟩ := h
  refine ⟨_, (pss_cons (ps_if (pt_val (pe_callB (call_isK .str) rfl T.isinstance (by decide +kernel) (pa_cons (pv 1) (pa_cons (pe_kn .str rfl T.str) pa_nil)))) (pss_one ps_retN) pss_nil) (pss_cons (ps_set (i := 2) sc.nd rfl (Or.inl rfl) (pe_tdget hr.units (pe_fld (pv 0) rfl) (pv 1) (fun _ _ => rfl))) (pss_one (ps_if (pt_cmpR op_eq (pe_ix ix_tup (pv 1) pe_int (fun _ _ => rfl)) (C8.pe_gc rfl T.PAIR) (nomark _)) (pss_cons (ps_expr (C8.pe_mt c_Cook_keep hr (by first | decide | omega) (pv 0) (pa_cons (pe_ix ix_tup (pv 1) pe_int (fun _ _ => rfl)) (pa_cons (pe_tup (pa_cons (C8.pe_gc rfl T.LEFT) (pa_cons (pv 2) pa_nil))) pa_nil)))) (pss_one (ps_expr (C8.pe_mt c_Cook_keep hr (by first | decide | omega) (pv 0) (pa_cons (pe_ix ix_tup (pv 1) pe_int (fun _ _ => rfl)) (pa_cons (pe_tup (pa_cons (C8.pe_gc rfl T.RIGHT) (pa_cons (pv 2) pa_nil))) pa_nil)))))) (pss_one (ps_if (pt_cmpR op_eq (pe_ix ix_tup (pv 1) pe_int (fun _ _ => rfl)) (C8.pe_gc rfl T.MARK) (nomark _)) (pss_one (ps_expr (C8.pe_mt c_Cook_keep hr (by first | decide | omega) (pv 0) (pa_cons (pe_ix ix_tup (pv 1) pe_int (fun _ _ => rfl)) (pa_cons (pe_tup (pa_cons (C8.pe_gc rfl T.READ) (pa_cons (pv 2) pa_nil))) pa_nil))))) (pss_one (ps_if (PW.pt (pw_and (pt_cmpR op_in_seq (pe_ix ix_tup (pv 1) pe_int (fun _ _ => rfl)) (pe_tup (pa_cons (C8.pe_gc rfl T.BOX) (pa_cons (C8.pe_gc rfl T.SHUT) pa_nil))) rfl) (pw_and (pt_cmpR (op_notInTd hr.units) (pe_ix ix_tup (pv 1) pe_int (fun _ _ => rfl)) (pe_fld (pv 0) rfl) rfl) (pw_and1 (pt_val (C8.pe_c c_is_built hr (by first | decide | omega) rfl (pa_cons (pe_fld (pv 0) rfl) (pa_cons (pe_ix ix_tup (pv 1) pe_int (fun _ _ => rfl)) pa_nil)))))))) (pss_one (ps_expr (C8.pe_mt c_Cook_keep hr (by first | decide | omega) (pv 0) (pa_cons (pe_ix ix_tup (pv 1) pe_int (fun _ _ => rfl)) (pa_cons (pe_tup (pa_cons (pe_ifExp (pt_cmpR op_eq (pe_ix ix_tup (pv 1) pe_int (fun _ _ => rfl)) (C8.pe_gc rfl T.BOX) (nomark _)) (C8.pe_gc rfl T.UNBOX) (C8.pe_gc rfl T.UNSHUT)) (pa_cons (pv 2) (pa_cons (C8.pe_mt c_Cook_make hr (by first | decide | omega) (pv 0) (pa_cons (pe_ix ix_tup (pv 1) pe_int (fun _ _ => rfl)) pa_nil)) pa_nil)))) pa_nil))))) pss_nil)))))))), ?_⟩
  have hck0 := hck
  obtain ⟨g1, ⟨us1, g2, g3⟩, g4, g5, g6, g7, g8, g9⟩ := hck
  have htU := hlU t htl
  have htok := hM.ok t (hU.sub t htU)
  have h8 : t.depth ≤ 8 := by omega
  have hl63 := keysIn_len63 hlU hU g5
  have hm5 := keysIn_len hmM hM g6
  cases nn : t.isNm with
  | true =>
    refine ⟨_, rfl, rfl, _, kdT ht nn, _, rfl, iteT (q H S W l m (SamX.refl _ _) hck0 ?_ hmM hcnt)⟩
    cases t with
    | nm x => rfl
    | un _ _ => cases nn
    | bi _ _ _ => cases nn
  | false =>
    obtain ⟨u, hu⟩ : ∃ u, valV l t = some u := by
      cases e : valV l t with
      | none => exact (valV_none_iff.mp e htl).elim
      | some u => exact ⟨u, rfl⟩
    obtain ⟨i, rfl, hi⟩ := g8.1 t u hu
    refine ⟨_, rfl, rfl, _, kdF ht nn, _, rfl, iteF ⟨_, rfl, a.c, a.C, a.dx, _, _, rfl, g1, F.cl, F.found, rfl, _, rfl, a.fo, l, t, _, rfl, g5, ht, h8, hu, ?_⟩⟩
    cases t with
    | nm x => cases nn
    | un g x =>
      obtain ⟨p, va, rfl, hp, ha⟩ := ht
      have e1 : decide (V.str g.s = V.str "pair") = false := by cases g <;> exact eqS (by decide +kernel)
      have e2 : decide (V.str g.s = V.str "mark") = false := by cases g <;> exact eqS (by decide +kernel)
      have e3 : inV (.str g.s) [.str "box", .str "shut"] = false := by cases g <;> decide +kernel
      refine ⟨_, rfl, _, _, _, _, rfl, rfl, SqT.of (hp), at0, rfl, _, rfl, ifF e1 ⟨_, rfl, _, _, _, _, rfl, rfl, SqT.of (hp), at0, rfl, _, rfl, ifF e2 ⟨_, rfl, _, _, _, _, rfl, rfl, SqT.of (hp), at0, by show 2 ≤ sizeLine; decide, fun p1 hp1 => ⟨p1, _, rfl, .inr (SqT.of upd_same), rfl, rfl, _, rfl, ifF e3 (iteF (q _ S W l m (Same.x _ (sUp hp1)) (hck0.same (sUp hp1)) rfl hmM hcnt))⟩⟩⟩⟩
    | bi g x y =>
      obtain ⟨p, va, vb, rfl, hp, ha, hb⟩ := ht
      have hxU := hU.kids _ htU x (by simp [Tm.kids])
      have hyU := hU.kids _ htU y (by simp [Tm.kids])
      have hxok := hM.ok x (hU.sub x hxU)
      have hyok := hM.ok y (hU.sub y hyU)
      by_cases hpair : g = .pair
      · subst hpair
        refine ⟨_, rfl, _, _, _, _, rfl, rfl, SqT.of (hp), at0, rfl, _, rfl, ifT (eqS (by decide +kernel)) ⟨_, rfl, a.c, a.dx, _, rfl, g1, rfl, _, rfl, _, _, _, _, rfl, rfl, SqT.of (hp), at1, _, rfl, by show 2 ≤ sizeLine; decide, fun p1 hp1 => ?_⟩⟩
        have k1 := sUp (o := .tup [V.str "left", V.int i]) hp1
        refine ⟨a, hs, S, W, l, m, (.left, [i]), .ref p1, va, x, rfl, rfl, hck0.same k1, ha.same k1, hxok, ⟨p1, rfl, upd_same⟩, .left hi, by omega, by omega, fun H2 S2 W2 l2 k2 hck2 hW2 hl2 hc2 => ?_⟩
        have hck2' := hck2
        obtain ⟨f1, ⟨us2, f2, f3⟩, f4, f5, f6, f7, f8, f9⟩ := hck2
        have tu2 := (sTups k1).trans ((hck0.same k1).tups k2)
        have hp2 := tu2 _ _ hp
        have hl2U : keysIn l2 U := fun z hz => by
          rw [hl2, mem_ins] at hz
          exact hz.elim (hlU z) fun e => e ▸ hxU
        have hl263 := keysIn_len63 hl2U hU f5
        have hi2 : W2[i]? = some (.bi .pair x y) := by
          obtain ⟨r, rfl⟩ := hW2
          rw [List.getElem?_append_left (List.getElem?_eq_some_iff.mp hi).1]
          exact hi
        refine ⟨_, rfl, a.c, a.dx, _, rfl, f1, rfl, _, rfl, _, _, _, _, rfl, rfl, SqT.of (hp2), at2, _, rfl, by show 2 ≤ sizeLine; decide, fun p3 hp3 => ?_⟩
        have k3 := sUp (o := .tup [V.str "right", V.int i]) hp3
        refine ⟨a, hs, S2, W2, l2, m, (.right, [i]), .ref p3, vb, y, rfl, rfl, hck2'.same k3, (hb.mono tu2).same k3, hyok, ⟨p3, rfl, upd_same⟩, .right hi2, by omega, by omega, fun H4 S4 W4 l4 k4 hck4 hW4 hl4 hc4 => ?_⟩
        refine q H4 S4 W4 l4 m ((Same.x _ k1).trans (k2.trans ((Same.x _ k3).trans k4))) hck4 ?_ hmM (by omega)
        rw [hl4, hl2]
        rfl
      by_cases hmark : g = .mark
      · subst hmark
        refine ⟨_, rfl, _, _, _, _, rfl, rfl, SqT.of (hp), at0, rfl, _, rfl, ifF (eqS (by decide +kernel)) ⟨_, rfl, _, _, _, _, rfl, rfl, SqT.of (hp), at0, rfl, _, rfl, ifT (eqS (by decide +kernel)) ⟨_, rfl, a.c, a.dx, _, rfl, g1, rfl, _, rfl, _, _, _, _, rfl, rfl, SqT.of (hp), at2, _, rfl, by show 2 ≤ sizeLine; decide, fun p1 hp1 => ?_⟩⟩⟩
        have k1 := sUp (o := .tup [V.str "read", V.int i]) hp1
        refine ⟨a, hs, S, W, l, m, (.read, [i]), .ref p1, vb, y, rfl, rfl, hck0.same k1, hb.same k1, hyok, ⟨p1, rfl, upd_same⟩, .read hi, by omega, by omega, fun H2 S2 W2 l2 k2 hck2 hW2 hl2 hc2 => ?_⟩
        exact q H2 S2 W2 l2 m ((Same.x _ k1).trans k2) hck2 hl2 hmM (by omega)
      have hg : g = .box ∨ g = .shut := by cases g <;> first | exact (hpair rfl).elim | exact (hmark rfl).elim | exact .inl rfl | exact .inr rfl
      have e1 : decide (V.str g.s = V.str "pair") = false := by rcases hg with rfl | rfl <;> exact eqS (by decide +kernel)
      have e2 : decide (V.str g.s = V.str "mark") = false := by rcases hg with rfl | rfl <;> exact eqS (by decide +kernel)
      have e3 : inV (.str g.s) [.str "box", .str "shut"] = true := by rcases hg with rfl | rfl <;> decide +kernel
      have hopn := opn_box (F := l.map (·.1)) (a := x) (b := y) hg
      refine ⟨_, rfl, _, _, _, _, rfl, rfl, SqT.of (hp), at0, rfl, _, rfl, ifF e1 ⟨_, rfl, _, _, _, _, rfl, rfl, SqT.of (hp), at0, rfl, _, rfl, ifF e2 ⟨_, rfl, _, _, _, _, rfl, rfl, SqT.of (hp), at0, by show 2 ≤ sizeLine; decide, fun p1 hp1 => ⟨p1, _, rfl, .inr (SqT.of upd_same), rfl, rfl, _, rfl, ifT e3 ?_⟩⟩⟩⟩
      have k1 := sUp (o := .tup [V.str "box", V.str "shut"]) hp1
      have hck1 := hck0.same k1
      have hp1' := k1 _ _ hp
      refine ⟨_, rfl, _, _, _, _, rfl, rfl, SqT.of (hp1'), at2, _, rfl, a.c, a.C, a.dx, _, _, rfl, hck1.1, F.cl, F.found, rfl, a.fo, l, y, rfl, hck1.2.2.2.1, hb.same k1, by omega, _, rfl, ?_⟩
      by_cases hyl : y ∈ l.map (·.1)
      · refine ifF (by rw [decide_eq_true hyl]; rfl) (iteF (q _ S W l m (Same.x _ k1) hck1 ?_ hmM hcnt))
        rw [hopn]
        split
        · exact (if_pos hyl).symm
        · rfl
      · refine ifT (by rw [decide_eq_false hyl]; rfl) ⟨_, rfl, a.c, a.C, a.dx, _, _, rfl, hck1.1, F.cl, F.found, rfl, _, rfl, _, _, _, _, rfl, rfl, SqT.of (hp1'), at1, a.fo, l, va, x, rfl, hck1.2.2.2.1, ha.same k1, hxok.1, by omega, by have := rk_le hxok.1; omega, fun H2 k2 => ⟨_, rfl, ?_⟩⟩
        have k12 := k1.trans k2
        have hck2 := hck0.same k12
        have hp2 := k12 _ _ hp
        cases hbx : built (l.map (·.1)) x with
        | false =>
          refine iteF (q _ S W l m (Same.x _ k12) hck2 ?_ hmM hcnt)
          rw [hopn, hbx]
          rfl
        | true =>
          rcases hg with rfl | rfl
          · refine iteT ⟨_, rfl, a.c, a.dx, _, rfl, hck2.1, rfl, _, rfl, _, _, _, _, rfl, rfl, SqT.of (hp2), at2, _, rfl, _, _, _, _, rfl, rfl, SqT.of (hp2), at0, rfl, _, rfl, ifT (eqS (by decide +kernel)) ?_⟩
            refine ⟨_, rfl, _, rfl, a.c, a.dx, _, rfl, hck2.1, rfl, _, rfl, _, _, _, _, rfl, rfl, SqT.of (hp2), at1, a, hs, S, W, l, m, va, x, M, rfl, rfl, hck2, ha.same k12, hU.sub x hxU, hM, hmM, hbx, by have := rk_le hxok.1; omega, hcnt, hl63, fun H3 S3 W3 m3 j k3 hck3 hW3 hm3 hnew3 hcnt3 hj => ⟨by show 3 ≤ sizeLine; decide, fun p4 hp4 => ?_⟩⟩
            have k4 := sUp (o := .tup [V.str "unbox", V.int i, V.int j]) hp4
            have hi3 : W3[i]? = some (.bi .box x y) := by
              obtain ⟨r, rfl⟩ := hW3
              rw [List.getElem?_append_left (List.getElem?_eq_some_iff.mp hi).1]
              exact hi
            have hm35 := keysIn_len hm3 hM hck3.2.2.2.2.1
            refine ⟨a, hs, S3, W3, l, m3, (.unbox, [i, j]), .ref p4, vb, y, rfl, rfl, hck3.same k4, ((hb.same k12).mono (hck2.tups k3)).same k4, hyok, ⟨p4, rfl, upd_same⟩, .unbox hi3 hj, by omega, by omega, fun H5 S5 W5 l5 k5 hck5 hW5 hl5 hc5 => ?_⟩
            refine q H5 S5 W5 l5 m3 ((Same.x _ k12).trans (k3.trans ((Same.x _ k4).trans k5))) hck5 ?_ hm3 (by omega)
            rw [hl5, hopn, if_pos hbx]
          · refine iteT ⟨_, rfl, a.c, a.dx, _, rfl, hck2.1, rfl, _, rfl, _, _, _, _, rfl, rfl, SqT.of (hp2), at2, _, rfl, _, _, _, _, rfl, rfl, SqT.of (hp2), at0, rfl, _, rfl, ifF (eqS (by decide +kernel)) ?_⟩
            refine ⟨_, rfl, _, rfl, a.c, a.dx, _, rfl, hck2.1, rfl, _, rfl, _, _, _, _, rfl, rfl, SqT.of (hp2), at1, a, hs, S, W, l, m, va, x, M, rfl, rfl, hck2, ha.same k12, hU.sub x hxU, hM, hmM, hbx, by have := rk_le hxok.1; omega, hcnt, hl63, fun H3 S3 W3 m3 j k3 hck3 hW3 hm3 hnew3 hcnt3 hj => ⟨by show 3 ≤ sizeLine; decide, fun p4 hp4 => ?_⟩⟩
            have k4 := sUp (o := .tup [V.str "unshut", V.int i, V.int j]) hp4
            have hi3 : W3[i]? = some (.bi .shut x y) := by
              obtain ⟨r, rfl⟩ := hW3
              rw [List.getElem?_append_left (List.getElem?_eq_some_iff.mp hi).1]
              exact hi
            have hm35 := keysIn_len hm3 hM hck3.2.2.2.2.1
            refine ⟨a, hs, S3, W3, l, m3, (.unshut, [i, j]), .ref p4, vb, y, rfl, rfl, hck3.same k4, ((hb.same k12).mono (hck2.tups k3)).same k4, hyok, ⟨p4, rfl, upd_same⟩, .unshut hi3 hj, by omega, by omega, fun H5 S5 W5 l5 k5 hck5 hW5 hl5 hc5 => ?_⟩
            refine q H5 S5 W5 l5 m3 ((Same.x _ k12).trans (k3.trans ((Same.x _ k4).trans k5))) hck5 ?_ hm3 (by omega)
            rw [hl5, hopn, if_pos hbx]
end
end Kt
/-! The walks: checks. -/
namespace Kt
open PySem PySem.Spec PyProof.Rows L2
open Tm
section
variable {P : Program} {w : World} {K : PySem.W.Frag} {mg : PySem.Str → Option Value} {base : Heap}
/-! ### the cook: init -/
abbrev N_Cook_init : List PySem.Str := ["self", "hearing", "at", "term", "many"]
abbrev P_Cook_init : List PySem.Str := ["self", "hearing"]
theorem sc_Cook_init : FnScope N_Cook_init P_Cook_init (defScope s_Cook_init) := ⟨rfl, rfl, rfl, by decide +kernel, rfl, by decide +kernel, by decide +kernel⟩
def muC (σ : L2.St) : Nat := match σ[4]? with
  | some (some (V.int i)) => muI i
  | _ => 0
def sp_Cook_init (C : Addr) : Sp := fun vs H Q _ => ∃ (x dx p : Addr) (hs : List Tm) (us : List V) (U M : List Tm), vs = [.ref x, .ref p] ∧ H x = some (.ins C dx []) ∧ H p = some (.tup us) ∧ TmVs H hs us ∧ (∀ t ∈ hs, t ∈ U) ∧ InU U M ∧ Univ M ∧ hs.length ≤ 1000 ∧
  ∀ H' (a : CA) S W l m, a.c = x → a.C = C → (∀ b, a.S b → H b = none) → SamX (fun b => b = x) H H' → Ck w a hs H' S W l m → IsClo (start0 hs) (l.map (·.1)) → keysIn l U → keysIn m M → S.length = l.length + m.length → Q .non H'
theorem tups_ins {H : Hp} {x C dx : Addr} {fs : List (PySem.Str × V)} {o : HO} (hx : H x = some (.ins C dx fs)) : Tups H (upd H x o) := tups_up (fun xs e => by rw [hx] at e; cases e)
theorem c_Cook {C : Addr} (F : CkF K C) (D : Mkr K C s_Cook_init) (hmg : mg "Cook" = some (.ref C)) (T : Gs K mg w) (c_Cook_keep : C8.Met P w K mg base 2 C "keep" (sp_Cook_keep (w := w) C) []) (c_Cook_unlock : C8.Met P w K mg base 16 C "unlock" (sp_Cook_unlock (w := w) C) []) : C8.Mak P w K mg base 17 "Cook" C (sp_Cook_init (w := w) C) [] := by
  have sc := sc_Cook_init
  refine mkMak D hmg (fun _ _ _ _ _ _ _ us hl => match us, hl with | [_, _], _ => rfl) sc (fun vs H Q E h => by obtain ⟨x, dx, p, hs, us, U, M, rfl, _⟩ := h; rfl) fun qual cdv A outer s H vs Q E ff hr h => ?_
  obtain ⟨x, dx, p, hs, us, U, M, rfl, hx, hp, hus, hsU, hU, hM, h1000, q⟩ := h
  have hul : us.length = hs.length := (Paired.length hus).symm
  refine ⟨_, (pss_cons (ps_fld (pv 0) (pe_lst pa_nil) rfl) (pss_cons (ps_fld (pv 0) pe_dnewTd rfl) (pss_cons (ps_fld (pv 0) pe_dnewTd rfl) (C8.pss_cut (ps_for PassesOwn.never rfl (pi_enumT rfl T.enumerate (pa_cons (pv 1) pa_nil)) (pg_tup rfl (pgs_cons (pg_name (i := 2) sc.nd rfl (Or.inl rfl)) (pgs_cons (pg_name (i := 3) sc.nd rfl (Or.inl rfl)) pgs_nil))) (pss_one (ps_if (pt_cmpR (op_notInTd hr.units) (pv 3) (pe_fld (pv 0) rfl) rfl) (pss_one (ps_expr (C8.pe_mt c_Cook_keep hr (by first | decide | omega) (pv 0) (pa_cons (pv 3) (pa_cons (pe_tup (pa_cons (C8.pe_gc rfl T.HEARD) (pa_cons (pv 2) pa_nil))) pa_nil))))) pss_nil))) (pss_cons (ps_set (i := 4) sc.nd rfl (Or.inl rfl) (pe_un un_neg pe_int)) (pss_one (ps_while PassesOwn.never (pt_cmpR op_ne (pv 4) (pe_callB call_lenTd rfl T.len (by decide +kernel) (pa_cons (pe_fld (pv 0) rfl) pa_nil)) (nomark _)) (pss_cons (ps_set (i := 4) sc.nd rfl (Or.inl rfl) (pe_callB call_lenTd rfl T.len (by decide +kernel) (pa_cons (pe_fld (pv 0) rfl) pa_nil))) (pss_one (ps_for PassesOwn.never rfl (pi_list (pe_callTy (call_listTd rfl) rfl T.list (by decide +kernel) (pa_cons (pe_fld (pv 0) rfl) pa_nil))) (pg_name (i := 3) sc.nd rfl (Or.inl rfl)) (pss_one (ps_expr (C8.pe_mt c_Cook_unlock hr (by first | decide | omega) (pv 0) (pa_cons (pv 3) pa_nil)))))))))))))), ?_⟩
  -- the three fields
  refine ⟨by show 0 ≤ sizeLine; decide, fun r hrn => ?_⟩
  have hxr : x ≠ r := fun z => by subst z; rw [hx] at hrn; cases hrn
  refine ⟨_, rfl, x, C, dx, [], rfl, (upd_ne hxr).trans hx, F.cl, F.rows, by show 0 < 1000; decide, ?_⟩
  have a1 : upd (upd H r (.lst [])) x (.ins C dx (putF "rows" (.ref r) [])) x = some (.ins C dx [("rows", .ref r)]) := upd_same
  have b1 : upd (upd H r (.lst [])) x (.ins C dx (putF "rows" (.ref r) [])) r = some (.lst []) := (upd_ne (Ne.symm hxr)).trans upd_same
  have k1 : SamX (fun b => b = x) H (upd (upd H r (.lst [])) x (.ins C dx (putF "rows" (.ref r) []))) := (Same.x _ (sUp hrn)).trans fun b o n e => (upd_ne n).trans e
  generalize upd (upd H r (.lst [])) x (.ins C dx (putF "rows" (.ref r) [])) = H1 at a1 b1 k1 ⊢
  refine fun fo hfn hfo => ?_
  have hxf : x ≠ fo := fun z => by subst z; rw [a1] at hfn; cases hfn
  have hrf : r ≠ fo := fun z => by subst z; rw [b1] at hfn; cases hfn
  refine ⟨_, rfl, x, C, dx, [("rows", .ref r)], rfl, (upd_ne hxf).trans a1, F.cl, F.found, by show 1 < 1000; decide, ?_⟩
  have a2 : upd (upd H1 fo (TdO fo #[] 0)) x (.ins C dx (putF "found" (.ref fo) [("rows", .ref r)])) x = some (.ins C dx [("rows", .ref r), ("found", .ref fo)]) := upd_same
  have b2 : upd (upd H1 fo (TdO fo #[] 0)) x (.ins C dx (putF "found" (.ref fo) [("rows", .ref r)])) r = some (.lst []) := (upd_ne (Ne.symm hxr)).trans ((upd_ne hrf).trans b1)
  have k2 : SamX (fun b => b = x) H1 (upd (upd H1 fo (TdO fo #[] 0)) x (.ins C dx (putF "found" (.ref fo) [("rows", .ref r)]))) := (Same.x _ (sUp hfn)).trans fun b o n e => (upd_ne n).trans e
  have c2 : TD w (upd (upd H1 fo (TdO fo #[] 0)) x (.ins C dx (putF "found" (.ref fo) [("rows", .ref r)]))) fo [] := (hfo w).mono (tups_ins ((upd_ne hxf).trans a1)) fun o e => (upd_ne (Ne.symm hxf)).trans e
  generalize upd (upd H1 fo (TdO fo #[] 0)) x (.ins C dx (putF "found" (.ref fo) [("rows", .ref r)])) = H2 at a2 b2 c2 k2 ⊢
  refine fun ma hmn hmo => ?_
  have hxm : x ≠ ma := fun z => by subst z; rw [a2] at hmn; cases hmn
  have hrm : r ≠ ma := fun z => by subst z; rw [b2] at hmn; cases hmn
  have hfm : fo ≠ ma := fun z => by
    obtain ⟨o, ho⟩ := c2.some
    rw [z, hmn] at ho
    cases ho
  refine ⟨_, rfl, x, C, dx, [("rows", .ref r), ("found", .ref fo)], rfl, (upd_ne hxm).trans a2, F.cl, F.made, by show 2 < 1000; decide, ?_⟩
  have a3 : upd (upd H2 ma (TdO ma #[] 0)) x (.ins C dx (putF "made" (.ref ma) [("rows", .ref r), ("found", .ref fo)])) x = some (.ins C dx [("rows", .ref r), ("found", .ref fo), ("made", .ref ma)]) := upd_same
  have b3 : upd (upd H2 ma (TdO ma #[] 0)) x (.ins C dx (putF "made" (.ref ma) [("rows", .ref r), ("found", .ref fo)])) r = some (.lst []) := (upd_ne (Ne.symm hxr)).trans ((upd_ne hrm).trans b2)
  have k3 : SamX (fun b => b = x) H2 (upd (upd H2 ma (TdO ma #[] 0)) x (.ins C dx (putF "made" (.ref ma) [("rows", .ref r), ("found", .ref fo)]))) := (Same.x _ (sUp hmn)).trans fun b o n e => (upd_ne n).trans e
  have c3 : TD w (upd (upd H2 ma (TdO ma #[] 0)) x (.ins C dx (putF "made" (.ref ma) [("rows", .ref r), ("found", .ref fo)]))) fo [] := (c2.same (sUp hmn)).mono (tups_ins ((upd_ne hxm).trans a2)) fun o e => (upd_ne (Ne.symm hxf)).trans e
  have d3 : TD w (upd (upd H2 ma (TdO ma #[] 0)) x (.ins C dx (putF "made" (.ref ma) [("rows", .ref r), ("found", .ref fo)]))) ma [] := (hmo w).mono (tups_ins ((upd_ne hxm).trans a2)) fun o e => (upd_ne (Ne.symm hxm)).trans e
  generalize upd (upd H2 ma (TdO ma #[] 0)) x (.ins C dx (putF "made" (.ref ma) [("rows", .ref r), ("found", .ref fo)])) = H3 at a3 b3 c3 d3 k3 ⊢
  have k03 : SamX (fun b => b = x) H H3 := k1.trans (k2.trans k3)
  have hpx : p ≠ x := fun z => by rw [z, hx] at hp; cases hp
  have hp3 := k03 _ _ hpx hp
  have tu03 : Tups H H3 := k03.tups fun b e xs => by subst e; rw [hx]; exact fun z => by cases z
  let a : CA := ⟨C, x, dx, r, fo, ma⟩
  have hck3 : Ck w a hs H3 [] [] [] [] := ⟨a3, ⟨[], b3, .nil⟩, .nil, c3, d3, hfm, ⟨fun t v e => (by cases e), fun x hx => (by cases hx)⟩, ⟨fun t v e => (by cases e), fun x hx => (by cases hx)⟩⟩
  have hfresh : ∀ b, a.S b → H b = none := fun b s => by
    cases e : H b with
    | none => rfl
    | some o =>
      exfalso
      rcases s with s | s | s
      · have e : H r = some o := by rw [s] at e; exact e
        rw [hrn] at e; cases e
      · have e : H fo = some o := by rw [s] at e; exact e
        have h2 := k1 _ _ (Ne.symm hxf) e
        rw [hfn] at h2; cases h2
      · have e : H ma = some o := by rw [s] at e; exact e
        have h2 := (k1.trans k2) _ _ (Ne.symm hxm) e
        rw [hmn] at h2; cases h2
  -- what was heard
  refine ⟨fun σ' H' => ∃ x2 x3, σ' = [some (.ref x), some (.ref p), x2, x3, none] ∧ SamX a.S H3 H' ∧ ∃ S W l, Ck w a hs H' S W l [] ∧ l.map (·.1) = start0 hs ∧ S.length = l.length, ?_, fun σ' H4 m4 => ?_⟩
  · refine ⟨_, rfl, p, us, rfl, SqT.of hp3, for_it walk_enumT (fun i σ' H' => ∃ x2 x3, σ' = [some (.ref x), some (.ref p), x2, x3, none] ∧ SamX a.S H3 H' ∧ ∃ S W l, Ck w a hs H' S W l [] ∧ l.map (·.1) = (hs.take i).foldl ins [] ∧ S.length = l.length)
      ⟨none, none, rfl, SamX.refl _ _, [], [], [], hck3, rfl, rfl⟩ (fun i σ' H' _ pp => by obtain ⟨_, _, _, k, _⟩ := pp; exact SqT.of (hck3.tups k _ _ hp3)) (fun i y σ' H5 H6 hi pp yy => ?_) (fun σ' H5 pp => ?_)⟩
    · obtain ⟨x2, x3, rfl, k5, S, W, l, hck5, hl5, hc5⟩ := pp
      obtain ⟨TT, y1, y2, rfl, hT, rfl, e1, e2⟩ := yy
      have e2 : us[i]? = some y2 := e2
      cases e1
      obtain ⟨t, ht⟩ : ∃ t, hs[i]? = some t := ⟨_, List.getElem?_eq_getElem (by omega)⟩
      obtain ⟨y', hy', hty⟩ := paired_at hus ht
      have e : y' = y2 := by rw [e2] at hy'; exact (Option.some.inj hy').symm
      subst e
      have hm := List.mem_of_getElem? ht
      have htok := hM.ok t (hU.sub t (hsU t hm))
      have kT := sUp (o := .tup [V.int (i : Nat), y']) hT
      have hck6 := hck5.same kT
      have hty6 : TmV (upd H5 TT (.tup [V.int (i : Nat), y'])) t y' := (hty.mono (tu03.trans (hck3.tups k5))).same kT
      have hlU : keysIn l U := fun z hz => by
        rw [hl5, foldl_ins_mem] at hz
        exact hsU z (take_mem (hz.elim (fun q => by cases q) id))
      have hl63 := keysIn_len63 hlU hU hck5.2.2.2.1
      refine ⟨_, _, rfl, SqT.of upd_same, rfl, _, _, rfl, _, _, rfl, rfl, _, rfl, _, rfl, x, C, dx, _, _, rfl, hck6.1, F.cl, F.found, rfl, fo, l, t, rfl, hck6.2.2.2.1, hty6, by omega, _, rfl, ?_⟩
      by_cases hmem : t ∈ l.map (·.1)
      · refine ifF (by rw [decide_eq_true hmem]; rfl) ⟨_, _, rfl, k5.trans (Same.x _ kT), S, W, l, hck6, ?_, hc5⟩
        rw [take_foldl ht, ← hl5]
        exact (if_pos hmem).symm
      · refine ifT (by rw [decide_eq_false hmem]; rfl) ⟨_, rfl, x, dx, _, rfl, hck6.1, rfl, _, rfl, _, rfl, by show 2 ≤ sizeLine; decide, fun p1 hp1 => ?_⟩
        have kp := sUp (o := .tup [V.str "heard", V.int (i : Nat)]) hp1
        refine ⟨a, hs, S, W, l, [], (.heard, [i]), .ref p1, y', t, rfl, rfl, hck6.same kp, hty6.same kp, htok, ⟨p1, rfl, upd_same⟩, .heard ht, by omega, by omega, fun H7 S7 W7 l7 k7 hck7 hW7 hl7 hc7 => ⟨_, _, rfl, k5.trans ((Same.x _ (kT.trans kp)).trans k7), S7, W7, l7, hck7, ?_, by omega⟩⟩
        rw [hl7, take_foldl ht, ← hl5]
    · obtain ⟨x2, x3, rfl, k5, S, W, l, hck5, hl5, hc5⟩ := pp
      refine ⟨_, _, rfl, k5, S, W, l, hck5, ?_, hc5⟩
      rw [hl5, hul, List.take_length]
      rfl
  obtain ⟨x2, x3, rfl, k4, S4, W4, l4, hck4, hl4, hc4⟩ := m4
  have h0U : ∀ x ∈ start0 hs, x ∈ U := fun x hx => hsU x (start0_mem.mp hx)
  refine ⟨_, rfl, ?_⟩
  refine while_by (fun σ' H' => ∃ many x2 x3, σ' = [some (.ref x), some (.ref p), x2, x3, some (.int many)] ∧ SamX a.S H3 H' ∧ ∃ S W l m, Ck w a hs H' S W l m ∧ (∃ k, l.map (·.1) = iter k (start0 hs)) ∧ many ≤ l.length ∧ -1 ≤ many ∧ (0 ≤ many → ∃ G, l.map (·.1) = swp G ∧ many = (G.length : Int)) ∧ keysIn m M ∧ S.length = l.length + m.length)
    (fun σ' _ => muC σ') ⟨-1, x2, x3, rfl, k4, S4, W4, l4, [], hck4, ⟨0, hl4⟩, by omega, by omega, fun z => by omega, fun z hz => (by cases hz), hc4⟩ (fun σ' H5 pv5 => ?_) (fun σ' H5 Q1 Q2 m ⟨v, e, v2, e2, b, C', dx', fs, v3, e3, e4, e5, e6, e7, d, l, e8, e9, e10, k, e11, q'⟩ => ⟨v, e, v2, e2, b, C', dx', fs, v3, e3, e4, e5, e6, e7, d, l, e8, e9, e10, k, e11, m _ _ q'⟩)
  obtain ⟨many, x2, x3, rfl, k5, S5, W5, l5, m5, hck5, ⟨kk, hk5⟩, hle, hge, hG5, hm5, hc5⟩ := pv5
  have hl5U : keysIn l5 U := fun z hz => iter_sub hU.kids kk h0U z (hk5 ▸ hz)
  have h63 := keysIn_len63 hl5U hU hck5.2.2.2.1
  refine ⟨_, rfl, _, rfl, x, C, dx, _, _, rfl, hck5.1, F.cl, F.found, rfl, fo, l5, rfl, hck5.2.2.2.1, rfl, _, rfl, ?_⟩
  by_cases hmany : many = (l5.length : Int)
  · refine ifF (by rw [decide_eq_true (congrArg V.int hmany)]; rfl) (q H5 a S5 W5 l5 m5 rfl rfl hfresh (fun b o n e => ?_) hck5 ⟨⟨kk, hk5⟩, ?_⟩ hl5U hm5 hc5)
    · exact k5 _ _ (fun s => by rw [hfresh b s] at e; cases e) (k03 _ _ n e)
    · obtain ⟨G, e1, e2⟩ := hG5 (by omega)
      have e3 : G.length = (swp G).length := by rw [← e1, List.length_map]; omega
      have e4 : G = swp G := List.IsPrefix.eq_of_length (swp_ge G) e3
      rw [e1, ← e4, ← e4]
  · refine ifT (by rw [decide_eq_false (fun z => hmany (V.int.inj z))]; rfl) ?_
    generalize hGe : l5.map (·.1) = G at *
    have hGl : l5.length = G.length := by rw [← hGe, List.length_map]
    have hGU : ∀ z ∈ G, z ∈ U := fun z hz => hl5U z (by rw [hGe]; exact hz)
    refine ⟨_, rfl, x, C, dx, _, _, rfl, hck5.1, F.cl, F.found, rfl, fo, l5, rfl, hck5.2.2.2.1, _, rfl, x, C, dx, _, _, rfl, hck5.1, F.cl, F.found, rfl, fo, l5, rfl, hck5.2.2.2.1, fun L vs hL hvs => ⟨L, rfl, ⟨_, SqL.of upd_same⟩, ?_⟩⟩
    have hLS : ¬ a.S L := fun s => hck5.old L s hL
    rw [hGe] at hvs
    have hvl : vs.length = G.length := (Paired.length hvs).symm
    have hckL := hck5.same (sUp (o := .lst vs) hL)
    refine for_it walk_list (fun i σ' H' => ∃ x2 x3, σ' = [some (.ref x), some (.ref p), x2, x3, some (.int l5.length)] ∧ SamX a.S (upd H5 L (.lst vs)) H' ∧ ∃ S W l m, Ck w a hs H' S W l m ∧ l.map (·.1) = (G.take i).foldl opn G ∧ keysIn m M ∧ S.length = l.length + m.length)
      ⟨x2, x3, rfl, SamX.refl _ _, S5, W5, l5, m5, hckL, hGe, hm5, hc5⟩ (fun i σ' H' _ pp => by obtain ⟨_, _, _, k, _⟩ := pp; exact SqL.of (k _ _ hLS upd_same)) (fun i y σ' H6 H7 hi pp yy => ?_) (fun σ' H6 pp => ?_)
    · obtain ⟨x2', x3', rfl, k6, S6, W6, l6, m6, hck6, hl6, hm6, hc6⟩ := pp
      obtain ⟨rfl, hy⟩ := yy
      obtain ⟨t, ht⟩ : ∃ t, G[i]? = some t := ⟨_, List.getElem?_eq_getElem (by omega)⟩
      obtain ⟨y', hy', hty⟩ := paired_at hvs ht
      have e : y' = y := by rw [hy] at hy'; exact (Option.some.inj hy').symm
      subst e
      have htG := List.mem_of_getElem? ht
      have tu6 : Tups H5 H7 := (sTups (sUp hL)).trans (hckL.tups k6)
      have h6U : keysIn l6 U := fun z hz => foldl_opn_sub hU.kids (G.take i) G hGU (fun y hy => hGU y (take_mem hy)) z (hl6 ▸ hz)
      have htl6 : t ∈ l6.map (·.1) := by
        rw [hl6]
        exact (foldl_ge opn_ge _ _).subset htG
      refine ⟨_, rfl, x, dx, _, rfl, hck6.1, rfl, _, rfl, a, hs, S6, W6, l6, m6, y', t, U, M, rfl, rfl, hck6, hty.mono tu6, htl6, h6U, hU, hM, hm6, hc6, fun H8 S8 W8 l8 m8 k8 hck8 hl8 hm8 hc8 => ⟨_, _, rfl, k6.trans k8, S8, W8, l8, m8, hck8, ?_, hm8, hc8⟩⟩
      rw [hl8, hl6, take_foldl ht]
    · obtain ⟨x2', x3', rfl, k6, S6, W6, l6, m6, hck6, hl6, hm6, hc6⟩ := pp
      rw [hvl, List.take_length] at hl6
      have hl6 : l6.map (·.1) = swp G := hl6
      have hlen : G.length ≤ l6.length := by
        have := (swp_ge G).length_le
        rw [← hl6, List.length_map] at this
        exact this
      refine ⟨⟨l5.length, _, _, rfl, k5.trans ((Same.x _ (sUp hL)).trans k6), S6, W6, l6, m6, hck6, ⟨kk + 1, ?_⟩, by omega, by omega, fun _ => ⟨G, hl6, by omega⟩, hm6, hc6⟩, ?_⟩
      · rw [hl6, hk5]
        exact (iter_add 1 kk _).symm
      · show muI (l5.length : Int) < muI many
        unfold muI
        omega
/-! ### recipes -/
def psub : Tm → List Tm
  | .nm x => [.nm x]
  | .un g a => .un g a :: psub a
  | .bi .shut a b => .bi .shut a b :: .un .half a :: (psub a ++ psub b)
  | .bi .pair a b => .bi .pair a b :: (psub a ++ psub b)
  | .bi .box a b => .bi .box a b :: (psub a ++ psub b)
  | .bi .mark a b => .bi .mark a b :: (psub a ++ psub b)
theorem psub_self : ∀ t : Tm, t ∈ psub t
  | .nm _ => List.mem_cons_self ..
  | .un _ _ => List.mem_cons_self ..
  | .bi .shut _ _ => List.mem_cons_self ..
  | .bi .pair _ _ => List.mem_cons_self ..
  | .bi .box _ _ => List.mem_cons_self ..
  | .bi .mark _ _ => List.mem_cons_self ..
theorem psub_two {x : Tm} {a b k p : Tm} (iha : ∀ k ∈ psub a, ∀ p ∈ pieces k, p ∈ psub a) (ihb : ∀ k ∈ psub b, ∀ p ∈ pieces k, p ∈ psub b) (h : k ∈ psub a ∨ k ∈ psub b) (hp : p ∈ pieces k) : p ∈ psub a ∨ p ∈ psub b := h.imp (fun h => iha k h p hp) fun h => ihb k h p hp
theorem psub_pcs : ∀ t : Tm, ∀ k ∈ psub t, ∀ p ∈ pieces k, p ∈ psub t
  | .nm x, k, hk, p, hp => by
    have e : k = .nm x := by simpa [psub] using hk
    subst e; cases hp
  | .un g a, k, hk, p, hp => by
    have e : k = .un g a ∨ k ∈ psub a := by simpa [psub] using hk
    show p ∈ .un g a :: psub a
    rcases e with e | e
    · subst e
      have e : p = a := by simpa [pieces] using hp
      subst e
      exact List.mem_cons_of_mem _ (psub_self p)
    · exact List.mem_cons_of_mem _ (psub_pcs a k e p hp)
  | .bi .shut a b, k, hk, p, hp => by
    have e : k = .bi .shut a b ∨ k = .un .half a ∨ k ∈ psub a ∨ k ∈ psub b := by simpa [psub] using hk
    show p ∈ .bi .shut a b :: .un .half a :: (psub a ++ psub b)
    simp only [List.mem_cons, List.mem_append]
    rcases e with e | e | e
    · subst e
      have e : p = .un .half a ∨ p = b := by simpa [pieces] using hp
      rcases e with e | e
      · exact .inr (.inl e)
      · subst e; exact .inr (.inr (.inr (psub_self p)))
    · subst e
      have e : p = a := by simpa [pieces] using hp
      subst e
      exact .inr (.inr (.inl (psub_self p)))
    · exact .inr (.inr (psub_two (x := a) (psub_pcs a) (psub_pcs b) e hp))
  | .bi .pair a b, k, hk, p, hp => by
    have e : k = .bi .pair a b ∨ k ∈ psub a ∨ k ∈ psub b := by simpa [psub] using hk
    show p ∈ .bi .pair a b :: (psub a ++ psub b)
    simp only [List.mem_cons, List.mem_append]
    rcases e with e | e
    · subst e
      have e : p = a ∨ p = b := by simpa [pieces] using hp
      rcases e with e | e <;> subst e
      · exact .inr (.inl (psub_self p))
      · exact .inr (.inr (psub_self p))
    · exact .inr (psub_two (x := a) (psub_pcs a) (psub_pcs b) e hp)
  | .bi .box a b, k, hk, p, hp => by
    have e : k = .bi .box a b ∨ k ∈ psub a ∨ k ∈ psub b := by simpa [psub] using hk
    show p ∈ .bi .box a b :: (psub a ++ psub b)
    simp only [List.mem_cons, List.mem_append]
    rcases e with e | e
    · subst e
      have e : p = a ∨ p = b := by simpa [pieces] using hp
      rcases e with e | e <;> subst e
      · exact .inr (.inl (psub_self p))
      · exact .inr (.inr (psub_self p))
    · exact .inr (psub_two (x := a) (psub_pcs a) (psub_pcs b) e hp)
  | .bi .mark a b, k, hk, p, hp => by
    have e : k = .bi .mark a b ∨ k ∈ psub a ∨ k ∈ psub b := by simpa [psub] using hk
    show p ∈ .bi .mark a b :: (psub a ++ psub b)
    simp only [List.mem_cons, List.mem_append]
    rcases e with e | e
    · subst e
      have e : p = a ∨ p = b := by simpa [pieces] using hp
      rcases e with e | e <;> subst e
      · exact .inr (.inl (psub_self p))
      · exact .inr (.inr (psub_self p))
    · exact .inr (psub_two (x := a) (psub_pcs a) (psub_pcs b) e hp)
theorem psub_len : ∀ (n : Nat) (t : Tm), t.depth ≤ n + 1 → (psub t).length + 2 ≤ 3 * 2 ^ n
  | n, .nm _, _ => by
    have := Nat.one_le_two_pow (n := n)
    show 1 + 2 ≤ _
    omega
  | 0, .un _ a, h => by have := depth_pos a; have h : a.depth + 1 ≤ 1 := h; omega
  | 0, .bi _ a b, h => by have := depth_pos a; have h : max a.depth b.depth + 1 ≤ 1 := h; omega
  | n + 1, .un g a, h => by
    have h : a.depth + 1 ≤ n + 1 + 1 := h
    have := psub_len n a (by omega)
    have p1 := Nat.one_le_two_pow (n := n)
    have p2 := Nat.pow_succ 2 n
    show (psub a).length + 1 + 2 ≤ _
    omega
  | n + 1, .bi g a b, h => by
    have h : max a.depth b.depth + 1 ≤ n + 1 + 1 := h
    have h1 := psub_len n a (by omega)
    have h2 := psub_len n b (by omega)
    have p1 := Nat.one_le_two_pow (n := n)
    have p2 := Nat.pow_succ 2 n
    cases g <;> simp only [psub, List.length_cons, List.length_append] <;> omega
theorem psub_ok {t : Tm} (hw : WF NameOk t) : ∀ k ∈ psub t, WF NameOk k ∧ k.depth ≤ t.depth := by
  induction t with
  | nm x =>
    intro k hk
    have e : k = .nm x := by simpa [psub] using hk
    subst e; exact ⟨hw, Nat.le_refl _⟩
  | un g a ih =>
    intro k hk
    have e : k = .un g a ∨ k ∈ psub a := by simpa [psub] using hk
    rcases e with e | e
    · subst e; exact ⟨hw, Nat.le_refl _⟩
    · have := ih (WF.kid hw (by simp [Tm.kids])) k e
      exact ⟨this.1, by have h2 : k.depth ≤ a.depth := this.2; show k.depth ≤ a.depth + 1; omega⟩
  | bi g a b iha ihb =>
    intro k hk
    have h1 := iha (WF.kid hw (by simp [Tm.kids]))
    have h2 := ihb (WF.kid hw (by simp [Tm.kids]))
    have two : k ∈ psub a ∨ k ∈ psub b → WF NameOk k ∧ k.depth ≤ (Tm.bi g a b).depth := fun h => by
      show _ ∧ k.depth ≤ max a.depth b.depth + 1
      rcases h with h | h
      · exact ⟨(h1 k h).1, by have := (h1 k h).2; omega⟩
      · exact ⟨(h2 k h).1, by have := (h2 k h).2; omega⟩
    cases g with
    | shut =>
      have e : k = .bi .shut a b ∨ k = .un .half a ∨ k ∈ psub a ∨ k ∈ psub b := by simpa [psub] using hk
      rcases e with e | e | e
      · subst e; exact ⟨hw, Nat.le_refl _⟩
      · subst e
        exact piece_ok hw (by simp [pieces])
      · exact two e
    | pair =>
      have e : k = .bi .pair a b ∨ k ∈ psub a ∨ k ∈ psub b := by simpa [psub] using hk
      rcases e with e | e
      · subst e; exact ⟨hw, Nat.le_refl _⟩
      · exact two e
    | box =>
      have e : k = .bi .box a b ∨ k ∈ psub a ∨ k ∈ psub b := by simpa [psub] using hk
      rcases e with e | e
      · subst e; exact ⟨hw, Nat.le_refl _⟩
      · exact two e
    | mark =>
      have e : k = .bi .mark a b ∨ k ∈ psub a ∨ k ∈ psub b := by simpa [psub] using hk
      rcases e with e | e
      · subst e; exact ⟨hw, Nat.le_refl _⟩
      · exact two e
theorem flat_len {U : List Tm} {n : Nat} (h : ∀ t ∈ U, (psub t).length ≤ n) : (U.flatMap psub).length ≤ U.length * n := by
  induction U with
  | nil => simp
  | cons a l ih =>
    have h1 := h a (by simp)
    have h2 := ih fun t ht => h t (by simp [ht])
    rw [List.flatMap_cons, List.length_append, List.length_cons, Nat.succ_mul]
    omega
theorem univ_of {U : List Tm} (hU : U.length < 65) (hG : Good U) : Univ (U.flatMap psub) := by
  refine ⟨fun t ht p hp => ?_, ?_, fun t ht => ?_⟩
  · obtain ⟨u, hu, h⟩ := List.mem_flatMap.mp ht
    exact List.mem_flatMap.mpr ⟨u, hu, psub_pcs u t h p hp⟩
  · have := flat_len (U := U) (n := 46) fun t ht => by
      have := psub_len 4 t (hG.2 t ht)
      omega
    have : U.length * 46 ≤ 64 * 46 := Nat.mul_le_mul_right _ (by omega)
    omega
  · obtain ⟨u, hu, h⟩ := List.mem_flatMap.mp ht
    have := psub_ok (hG.1 u hu) t h
    have h5 := hG.2 u hu
    exact ⟨this.1, by omega⟩
abbrev N_recipe_for : List PySem.Str := ["hearing", "term", "row", "cook"]
abbrev P_recipe_for : List PySem.Str := ["hearing", "term"]
theorem sc_recipe_for : FnScope N_recipe_for P_recipe_for (defScope s_recipe_for) := ⟨rfl, rfl, rfl, by decide +kernel, rfl, by decide +kernel, by decide +kernel⟩
def sp_recipe_for : Sp := fun vs H Q _ => ∃ a hs v t, vs = [.ref a, v] ∧ Hear H a hs ∧ TmV H t v ∧ WF NameOk t ∧ t.depth ≤ 5 ∧ (∀ F H', IsClo (start0 hs) F → built F t = false → Same H H' → Q .non H') ∧
  ∀ F v H' S W, IsClo (start0 hs) F → built F t = true → Same H H' → RecV H' S v → Runs hs S W → S.length ≤ 60000 → (∀ x ∈ W, WF NameOk x ∧ x.depth ≤ 5) → W[W.length - 1]? = some t → Q v H'
theorem c_recipe_for {C : Addr} (F : CkF K C) (D : Dfn K mg "recipe_for" s_recipe_for) (T : Gs K mg w) (c_good_hearing : C8.Cal P w K mg base 11 "good_hearing" sp_good_hearing []) (c_check_term : C8.Cal P w K mg base 11 "check_term" sp_check_term []) (c_is_built : C8.Cal P w K mg base 9 "is_built" (sp_is_built (w := w) 7) [])
    (c_Cook : C8.Mak P w K mg base 17 "Cook" C (sp_Cook_init (w := w) C) []) (c_Cook_make : C8.Met P w K mg base 15 C "make" (sp_Cook_make (w := w) C 7) []) (c_pruned : C8.Cal P w K mg base 1 "pruned" sp_pruned []) : C8.Cal P w K mg base 19 "recipe_for" sp_recipe_for [] := by
  have sc := sc_recipe_for
  refine mkCal D (fun _ _ _ _ _ _ us hl => match us, hl with | [_, _], _ => rfl) sc (fun vs H Q E h => by obtain ⟨a, hs, v, t, rfl, _⟩ := h; rfl) fun cdv A outer s H vs Q E ff hr h => ?_
  obtain ⟨a, hs, v, t, rfl, ⟨us, ha, hus, h40, hg, ⟨U, hUl, hUk, hUg, hUs⟩⟩, ht, hw, h5, qN, qR⟩ := h
  refine ⟨_, (pss_cons (ps_set (i := 2) sc.nd rfl (Or.inl rfl) (C8.pe_c c_good_hearing hr (by first | decide | omega) rfl (pa_cons (pv 0) pa_nil))) (pss_cons (ps_expr (C8.pe_c c_check_term hr (by first | decide | omega) rfl (pa_cons (pv 1) pa_nil))) (pss_cons (ps_set (i := 3) sc.nd rfl (Or.inl rfl) (C8.pe_mk c_Cook hr (by first | decide | omega) rfl (pa_cons (pv 2) pa_nil))) (pss_cons (ps_if (pt_not (pt_val (C8.pe_c c_is_built hr (by first | decide | omega) rfl (pa_cons (pe_fld (pv 3) rfl) (pa_cons (pv 1) pa_nil))))) (pss_one (ps_ret pe_non)) pss_nil) (pss_one (ps_ret (C8.pe_c c_pruned hr (by first | decide | omega) rfl (pa_cons (pe_fld (pv 3) rfl) (pa_cons (C8.pe_mt c_Cook_make hr (by first | decide | omega) (pv 3) (pa_cons (pv 1) pa_nil)) pa_nil))))))))), ?_⟩
  have hGt : Good (t :: U) := ⟨fun x hx => by
    rcases List.mem_cons.mp hx with e | e
    · subst e; exact hw
    · exact hUg.1 x e, fun x hx => by
    rcases List.mem_cons.mp hx with e | e
    · subst e; exact h5
    · exact hUg.2 x e⟩
  have hM := univ_of (U := t :: U) (by simp; omega) hGt
  have hIn : InU U ((t :: U).flatMap psub) := ⟨hUl, hUk, fun x hx => List.mem_flatMap.mpr ⟨x, List.mem_cons_of_mem _ hx, psub_self x⟩⟩
  have htM : t ∈ (t :: U).flatMap psub := List.mem_flatMap.mpr ⟨t, List.mem_cons_self .., psub_self t⟩
  have hM5 : ∀ x ∈ (t :: U).flatMap psub, WF NameOk x ∧ x.depth ≤ 5 := fun x hx => by
    obtain ⟨u, hu, h⟩ := List.mem_flatMap.mp hx
    have h1 := psub_ok (hGt.1 u hu) x h
    have h2 := hGt.2 u hu
    exact ⟨h1.1, by omega⟩
  generalize (t :: U).flatMap psub = M at hM hIn htM hM5
  refine ⟨_, rfl, a, hs, us, rfl, ha, hus, h40, hg, fun p H1 k1 hp => ⟨_, rfl, v, t, rfl, ht.same k1, hw, h5, fun H2 k2 => ⟨_, rfl, fun x dx hx hdx hne => ?_⟩⟩⟩
  have k12 := k1.trans k2
  have hp2 := k2 _ _ hp
  have kD : Same H2 (upd H2 dx (.own x)) := sUp hdx
  have kX : Same H2 (upd (upd H2 dx (.own x)) x (.ins C dx [])) := kD.trans (sUp ((upd_ne (Ne.symm hne)).trans hx))
  refine ⟨x, dx, p, hs, us, U, M, rfl, upd_same, kX _ _ hp2, TmVs.same (k12.trans kX) hus, hUs, hIn, hM, by omega, fun H3 ca S W l m hcx hcC hfr k3 hck hclo hlU hmM hcnt => ⟨rfl, ?_⟩⟩
  have k23 : Same H2 H3 := fun b o e => k3 _ _ (fun z => by subst z; rw [hx] at e; cases e) (kX _ _ e)
  subst hcx hcC
  have hck0 := hck
  obtain ⟨g1, ⟨us1, g2, g3⟩, g4, g5, g6, g7, g8, g9⟩ := hck
  have k123 := k12.trans k23
  refine ⟨_, rfl, ca.c, ca.C, ca.dx, _, _, rfl, g1, F.cl, F.found, rfl, _, rfl, ca.fo, l, v, t, rfl, g5, ht.same k123, hw, by omega, by have := rk_le hw; omega, fun H4 k4 => ⟨_, rfl, ?_⟩⟩
  cases hb : built (l.map (·.1)) t with
  | false => exact iteT (qN _ H4 hclo hb (k123.trans k4))
  | true =>
    have hck4 := hck0.same k4
    refine iteF ⟨_, rfl, ca.c, ca.C, ca.dx, _, _, rfl, hck4.1, F.cl, F.rows, rfl, _, rfl, ca.c, ca.dx, _, rfl, hck4.1, rfl, _, rfl, ca, hs, S, W, l, m, v, t, M, rfl, rfl, hck4, ht.same (k123.trans k4), htM, hM, hmM, hb, by have := rk_le hw; omega, hcnt, keysIn_len63 hlU hIn g5, fun H5 S5 W5 m5 i k5 hck5 hW5 hm5 hnew5 hcnt5 hi => ?_⟩
    obtain ⟨f1, ⟨us5, f2, f3⟩, f4, f5, f6, f7, f8, f9⟩ := hck5
    have h63 := keysIn_len63 hlU hIn g5
    have hm5l := keysIn_len hm5 hM f6
    have k45 : Same H2 H5 := fun b o e => k5 _ _ (fun s => by
      have := kX _ _ e
      rw [hfr b s] at this
      cases this) (k4 _ _ (k23 _ _ e))
    refine ⟨ca.r, i, S5, us5, W5, hs, t, rfl, f2, f3, f4, hi, by omega, fun v' H6 S' W' k6 hrec hruns hlen hin hlast => ?_⟩
    refine qR _ v' H6 S' W' hclo hb (k12.trans (k45.trans k6)) hrec hruns (by omega) (fun x hx => f8.2 x (hin x hx)) hlast
end
end Kt
/-! The walks: checks. -/
namespace Kt
open PySem PySem.Spec PyProof.Rows L2
open Tm
section
variable {P : Program} {w : World} {K : PySem.W.Frag} {mg : PySem.Str → Option Value} {base : Heap}
/-! ### the bag -/
theorem at3 {α : Type} {a b c d : α} {l : List α} : atI (a :: b :: c :: d :: l) 3 = some d := atI_nat (j := 3) rfl
theorem at4 {α : Type} {a b c d e : α} {l : List α} : atI (a :: b :: c :: d :: e :: l) 4 = some e := atI_nat (j := 4) rfl
/-- the bag at b -/
def Bag (H : Hp) (b : Addr) : Prop := ∃ (ls : Addr) (cs : List Int) (i big n seed : Int), H b = some (.lst [.ref ls, .int i, .int big, .int n, .int seed]) ∧ H ls = some (.lst (cs.map V.int)) ∧ b ≠ ls ∧ 0 ≤ i ∧ i ≤ cs.length ∧ cs.length ≤ 63 ∧ 0 ≤ big ∧ 0 ≤ seed ∧ seed < 2147483648
/-- all but the bag is as it was, and the bag is one -/
structure Bg (b : Addr) (H H' : Hp) : Prop where
  s : SamX (fun a => a = b) H H'
  bag : Bag H' b
  fst : ∀ ls r, H b = Option.some (.lst (.ref ls :: r)) → ∃ r', H' b = Option.some (.lst (.ref ls :: r'))
theorem bg_of {H H' : Hp} {b ls : Addr} {r r' : List V} (hb : H b = Option.some (.lst (.ref ls :: r))) (s : SamX (fun a => a = b) H H') (hb' : H' b = Option.some (.lst (.ref ls :: r'))) (bag : Bag H' b) : Bg b H H' :=
  ⟨s, bag, fun ls2 r2 e => by
    rw [hb] at e
    cases e
    exact ⟨r', hb'⟩⟩
theorem Bag.notup {H : Hp} {b : Addr} (h : Bag H b) : ∀ xs, H b ≠ some (.tup xs) := fun xs e => by
  obtain ⟨ls, cs, i, big, n, seed, e1, _⟩ := h
  rw [e1] at e; cases e
theorem Bag.some {H : Hp} {b : Addr} (h : Bag H b) : H b ≠ none := fun e => by
  obtain ⟨ls, cs, i, big, n, seed, e1, _⟩ := h
  rw [e1] at e; cases e
theorem Bag.same {H H' : Hp} {b : Addr} (h : Bag H b) (k : Same H H') : Bag H' b := by
  obtain ⟨ls, cs, i, big, n, seed, e1, e2, e3⟩ := h
  exact ⟨ls, cs, i, big, n, seed, k _ _ e1, k _ _ e2, e3⟩
theorem Bg.refl {b : Addr} {H : Hp} (h : Bag H b) : Bg b H H := ⟨SamX.refl _ _, h, fun ls r e => ⟨r, e⟩⟩
theorem Bg.trans {b : Addr} {H H1 H2 : Hp} (h : Bg b H H1) (k : Bg b H1 H2) : Bg b H H2 := ⟨h.s.trans k.s, k.bag, fun ls r e => let ⟨r1, e1⟩ := h.fst ls r e; k.fst ls r1 e1⟩
theorem Bg.same {b : Addr} {H H1 H2 : Hp} (h : Bg b H H1) (k : Same H1 H2) : Bg b H H2 := ⟨h.s.trans (Same.x _ k), h.bag.same k, fun ls r e => let ⟨r1, e1⟩ := h.fst ls r e; ⟨r1, k _ _ e1⟩⟩
theorem Same.bg {b : Addr} {H H' : Hp} (k : Same H H') (h : Bag H b) : Bg b H H' := (Bg.refl h).same k
/-- a place that was new may hold what it likes -/
theorem Bg.up {b L : Addr} {H H' : Hp} {o : HO} (k : Bg b H H') (h : Bag H b) (hL : H L = none) : Bg b H (upd H' L o) := by
  have hbL : b ≠ L := fun z => h.some (z ▸ hL)
  refine ⟨k.s.up hL, ?_, fun ls r e => let ⟨r1, e1⟩ := k.fst ls r e; ⟨r1, (upd_ne hbL).trans e1⟩⟩
  obtain ⟨ls0, cs0, _, _, _, _, e0, f0, _⟩ := h
  obtain ⟨ls, cs, i, big, n, seed, e1, f1, g⟩ := k.bag
  obtain ⟨r1, e2⟩ := k.fst _ _ e0
  rw [e1] at e2
  cases e2
  have hl : ls0 ≠ L := fun z => by
    subst z; rw [hL] at f0; cases f0
  exact ⟨ls0, cs, i, big, n, seed, (upd_ne hbL).trans e1, (upd_ne hl).trans f1, g⟩
theorem Bg.tups {b : Addr} {H H' : Hp} (h : Bg b H H') (hb : Bag H b) : Tups H H' := h.s.tups fun a e => by subst e; exact hb.notup
theorem Bg.at {b a : Addr} {H H' : Hp} {o : HO} (h : Bg b H H') (e : H a = some o) (n : a ≠ b) : H' a = some o := h.s _ _ n e
abbrev N_law_bag : List PySem.Str := ["_law_script", "_law_seed", "_law_cell"]
abbrev P_law_bag : List PySem.Str := ["_law_script"]
theorem sc_law_bag : FnScope N_law_bag P_law_bag (defScope s_law_bag) := ⟨rfl, rfl, rfl, by decide +kernel, rfl, by decide +kernel, by decide +kernel⟩
def sp_law_bag : Sp := fun vs H Q _ => ∃ (a : Addr) (ns : List Int), vs = [.ref a] ∧ SqL K H a (ns.map V.int) ∧ ns.length ≤ 63 ∧ ∀ b H', Same H H' → Bag H' b → Q (.ref b) H'
theorem cut63 (ns : List Int) (h : ns.length ≤ 63) : cutV (ns.map V.int) none (some 63) = ns.map V.int := by
  have e1 : HT.sIx (ns.map V.int).length 0 none = 0 := rfl
  have e2 : HT.sIx (ns.map V.int).length (ns.map V.int).length (some 63) = ns.length := by
    unfold HT.sIx
    simp; omega
  unfold cutV
  rw [e1, e2, List.drop_zero, Nat.sub_zero, List.take_of_length_le (by simp)]
theorem c_law_bag (D : Dfn K mg "_law_bag" s_law_bag) (T : Gs K mg w) : C8.Cal P w K mg base 1 "_law_bag" (sp_law_bag (K := K)) [] := by
  have sc := sc_law_bag
  refine mkCal D (fun _ _ _ _ _ _ us hl => match us, hl with | [_], _ => rfl) sc (fun vs H Q E h => by obtain ⟨a, ns, rfl, _⟩ := h; rfl) fun cdv A outer s H vs Q E f hr h => ?_
  obtain ⟨a, ns, rfl, ha, h63, q⟩ := h
  have hcut := cut63 ns h63
  refine ⟨_, (pss_cons (ps_set (i := 1) sc.nd rfl (Or.inl rfl) pe_int) (pss_cons (ps_for PassesOwn.never rfl (pi_list (pe_slice sl_list (pv 0) po_no (po_some pe_int))) (pg_name (i := 2) sc.nd rfl (Or.inl rfl)) (pss_one (ps_set (i := 1) sc.nd rfl (Or.inl rfl) (pe_op op_mod (pe_callTy call_int1 rfl T.int (by decide +kernel) (pa_cons (pe_op op_add (pe_op op_add (pe_op op_mul (pv 1) pe_int) (pv 2)) pe_int) pa_nil)) pe_int)))) (pss_one (ps_ret (pe_lst (pa_cons (pe_callTy call_list_of rfl T.list (by decide +kernel) (pa_cons (pe_slice sl_list (pv 0) po_no (po_some pe_int)) pa_nil)) (pa_cons pe_int (pa_cons pe_int (pa_cons pe_int (pa_cons (pv 1) pa_nil)))))))))), ?_⟩
  refine ⟨_, rfl, _, rfl, a, _, rfl, ha, fun p1 hp1 => ?_⟩
  rw [hcut]
  refine ⟨p1, rfl, ⟨_, SqL.of upd_same⟩, for_list (xs := ns.map V.int) (fun i σ' H' => ∃ seed x2, σ' = [some (.ref a), some (.int seed), x2] ∧ 0 ≤ seed ∧ seed < 2147483648 ∧ Same H H' ∧ H' p1 = some (.lst (ns.map V.int)))
    ⟨37, none, rfl, by omega, by omega, sUp hp1, upd_same⟩ (fun i σ' H' _ pp => by obtain ⟨_, _, _, _, _, _, e⟩ := pp; exact SqL.of e) (fun i x σ' H1 hx pp => ?_) (fun σ' H1 pp => ?_)⟩
  · obtain ⟨seed, x2, rfl, h0, h1, k, hp⟩ := pp
    rw [List.getElem?_map] at hx
    cases hc : ns[i]? with
    | none => rw [hc] at hx; cases hx
    | some c =>
      rw [hc] at hx
      cases hx
      refine ⟨_, rfl, _, _, rfl, rfl, .inl ⟨by omega, by omega⟩, _, rfl, _, _, rfl, rfl, _, _, rfl, rfl, .inl ⟨_, rfl, _, _, rfl, rfl, by show (0 : Int) < 2147483629; decide, _, _, rfl, ?_, ?_, k, hp⟩⟩
      · exact Int.emod_nonneg _ (by decide)
      · have := Int.emod_lt_of_pos (seed * 61 + c + 19) (b := 2147483629) (by decide)
        show (seed * 61 + c + 19) % 2147483629 < 2147483648
        omega
  · obtain ⟨seed, x2, rfl, h0, h1, k, hp⟩ := pp
    refine ⟨_, rfl, _, rfl, a, _, rfl, Same.seq k ha, fun p2 hp2 => ⟨p2, _, rfl, .inl (SqL.of upd_same), fun p3 hp3 => ⟨_, rfl, by show 5 ≤ sizeLine; decide, fun b hb => ?_⟩⟩⟩
    rw [hcut] at hp3 hb ⊢
    have hb3 : b ≠ p3 := fun z => by subst z; rw [upd_same] at hb; cases hb
    refine q b _ (k.trans ((sUp hp2).trans ((sUp hp3).trans (sUp hb)))) ⟨p3, ns, 0, 0, 0, seed, upd_same, (upd_ne (Ne.symm hb3)).trans upd_same, hb3, by omega, by omega, h63, by omega, h0, h1⟩
abbrev N_law_draw : List PySem.Str := ["_law_bag_here", "_law_many", "_law_cell", "_law_digit", "_law_mixed"]
abbrev P_law_draw : List PySem.Str := ["_law_bag_here", "_law_many"]
theorem sc_law_draw : FnScope N_law_draw P_law_draw (defScope s_law_draw) := ⟨rfl, rfl, rfl, by decide +kernel, rfl, by decide +kernel, by decide +kernel⟩
theorem ix5 (i : Nat) (h : i < 5) : ixN 5 (i : Int) = some i := by
  match i, h with
  | 0, _ => rfl
  | 1, _ => rfl
  | 2, _ => rfl
  | 3, _ => rfl
  | 4, _ => rfl
def sp_law_draw : Sp := fun vs H Q _ => ∃ (b : Addr) (many : Nat), vs = [.ref b, .int many] ∧ Bag H b ∧ 0 < many ∧ many ≤ 1000 ∧ ∀ (d : Nat) H', d < many → Bg b H H' → Q (.int d) H'
theorem c_law_draw (D : Dfn K mg "_law_draw" s_law_draw) (T : Gs K mg w) : C8.Cal P w K mg base 1 "_law_draw" sp_law_draw [] := by
  have sc := sc_law_draw
  refine mkCal D (fun _ _ _ _ _ _ us hl => match us, hl with | [_, _], _ => rfl) sc (fun vs H Q E h => by obtain ⟨b, many, rfl, _⟩ := h; rfl) fun cdv A outer s H vs Q E f hr h => ?_
  obtain ⟨b, many, rfl, hbag, hm0, hm1, q⟩ := h
  have hdraw : ∀ x : Int, ∃ d : Nat, d < many ∧ x % (many : Int) = (d : Int) := fun x => by
    have h1 := Int.emod_nonneg x (b := (many : Int)) (by omega)
    have h2 := Int.emod_lt_of_pos x (b := (many : Int)) (by omega)
    exact ⟨(x % (many : Int)).toNat, by omega, by omega⟩
  refine ⟨_, (C8.pss_cut (ps_asg (pe_op op_add (pe_ix ix_list (pv 0) pe_int (fun _ _ => rfl)) pe_int) (pg_sub (pv 0) pe_int set_list)) (C8.pss_cut (ps_if (PW.pt (pw_and (pt_cmpR op_eq (pe_ix ix_list (pv 0) pe_int (fun _ _ => rfl)) pe_int (nomark _)) (pw_and1 (pt_cmpR op_lt (pe_ix ix_list (pv 0) pe_int (fun _ _ => rfl)) (pe_callB call_len_seq rfl T.len (by decide +kernel) (pa_cons (pe_ix ix_list (pv 0) pe_int (fun _ _ => rfl)) pa_nil)) (nomark _))))) (pss_cons (ps_set (i := 2) sc.nd rfl (Or.inl rfl) (pe_ix ix_list (pe_ix ix_list (pv 0) pe_int (fun _ _ => rfl)) (pe_ix ix_list (pv 0) pe_int (fun _ _ => rfl)) (fun _ _ => rfl))) (pss_cons (ps_asg (pe_op op_add (pe_ix ix_list (pv 0) pe_int (fun _ _ => rfl)) pe_int) (pg_sub (pv 0) pe_int set_list)) (pss_one (ps_if (pt_cmpR op_ge (pv 2) (pe_op op_pow pe_int pe_int) (nomark _)) (pss_one (ps_asg (pv 2) (pg_sub (pv 0) pe_int set_list))) (pss_one (ps_asg (pe_op op_mod (pe_callTy call_int1 rfl T.int (by decide +kernel) (pa_cons (pe_op op_add (pe_op op_add (pe_op op_mul (pe_ix ix_list (pv 0) pe_int (fun _ _ => rfl)) pe_int) (pv 2)) pe_int) pa_nil)) pe_int) (pg_sub (pv 0) pe_int set_list))))))) pss_nil) (C8.pss_cut (ps_if (pt_cmpR op_gt (pe_ix ix_list (pv 0) pe_int (fun _ _ => rfl)) pe_int (nomark _)) (pss_cons (ps_set (i := 3) sc.nd rfl (Or.inl rfl) (pe_op op_mod (pe_callTy call_int1 rfl T.int (by decide +kernel) (pa_cons (pe_ix ix_list (pv 0) pe_int (fun _ _ => rfl)) pa_nil)) (pv 1))) (pss_cons (ps_asg (pe_op op_fdiv (pe_ix ix_list (pv 0) pe_int (fun _ _ => rfl)) (pv 1)) (pg_sub (pv 0) pe_int set_list)) (pss_one (ps_ret (pv 3))))) pss_nil) (pss_cons (ps_set (i := 4) sc.nd rfl (Or.inl rfl) (pe_op op_mod (pe_callTy call_int1 rfl T.int (by decide +kernel) (pa_cons (pe_op op_add (pe_op op_add (pe_op op_mul (pe_ix ix_list (pv 0) pe_int (fun _ _ => rfl)) pe_int) (pe_op op_mul (pe_ix ix_list (pv 0) pe_int (fun _ _ => rfl)) pe_int)) pe_int) pa_nil)) pe_int)) (pss_cons (ps_set (i := 4) sc.nd rfl (Or.inl rfl) (pe_op op_mod (pe_callTy call_int1 rfl T.int (by decide +kernel) (pa_cons (pe_op op_mul (pv 4) (pe_op op_add (pe_op op_fdiv (pv 4) pe_int) pe_int)) pa_nil)) pe_int)) (pss_cons (ps_set (i := 4) sc.nd rfl (Or.inl rfl) (pe_op op_mod (pe_callTy call_int1 rfl T.int (by decide +kernel) (pa_cons (pe_op op_mul (pv 4) (pe_op op_add (pe_op op_fdiv (pv 4) pe_int) pe_int)) pa_nil)) pe_int)) (pss_one (ps_ret (pe_op op_mod (pe_callTy call_int1 rfl T.int (by decide +kernel) (pa_cons (pe_op op_fdiv (pv 4) pe_int) pa_nil)) (pv 1)))))))))), ?_⟩
  -- one more draw
  refine ⟨fun σ' H' => σ' = [some (.ref b), some (.int many), none, none, none] ∧ Bg b H H', ?_, fun σ' H1 m1 => ?_⟩
  · obtain ⟨ls, cs, i, big, n, seed, hb, hls, hne, g1, g2, g3, g4, g5, g6⟩ := hbag
    refine ⟨_, rfl, _, _, _, _, rfl, rfl, SqL.of (hb), at3, _, _, rfl, rfl, _, rfl, b, _, 3, 3, rfl, rfl, hb, ix5 3 (by decide), rfl, bg_of hb (fun a o n e => (upd_ne n).trans e) upd_same ⟨ls, cs, i, big, _, seed, upd_same, (upd_ne (Ne.symm hne)).trans hls, hne, g1, g2, g3, g4, g5, g6⟩⟩
  obtain ⟨rfl, k1⟩ := m1
  refine ⟨fun σ' H' => ∃ x2, σ' = [some (.ref b), some (.int many), x2, none, none] ∧ Bg b H H', ?_, fun σ' H2 m2 => ?_⟩
  · obtain ⟨ls, cs, i, big, n, seed, hb, hls, hne, g1, g2, g3, g4, g5, g6⟩ := k1.bag
    refine ⟨_, rfl, _, _, _, _, rfl, rfl, SqL.of (hb), at2, rfl, _, rfl, ite2 (fun hbig => ?_) fun _ => iteF ⟨_, rfl, k1⟩⟩
    refine ⟨_, rfl, _, _, _, _, rfl, rfl, SqL.of (hb), at1, _, rfl, _, _, _, _, rfl, rfl, SqL.of (hb), at0, ls, _, rfl, .inl (SqL.of hls), _, _, rfl, rfl, _, rfl, ite2 (fun hlt => ?_) fun _ => ⟨_, rfl, k1⟩⟩
    have hi : i < (cs.map V.int).length := of_decide_eq_true hlt
    obtain ⟨c, hc⟩ : ∃ c, cs[i.toNat]? = some c := ⟨_, List.getElem?_eq_getElem (by rw [List.length_map] at hi; omega)⟩
    have hat : atI (cs.map V.int) i = some (.int c) := by
      have : i = ((i.toNat : Nat) : Int) := by omega
      rw [this]
      exact atI_nat (by rw [List.getElem?_map, hc]; rfl)
    refine ⟨_, rfl, _, _, _, _, rfl, rfl, SqL.of (hb), at0, _, rfl, _, _, _, _, rfl, rfl, SqL.of (hb), at1, _, _, _, _, rfl, rfl, SqL.of hls, hat, ?_⟩
    refine ⟨_, rfl, _, _, _, _, rfl, rfl, SqL.of (hb), at1, _, _, rfl, rfl, _, rfl, b, _, 1, 1, rfl, rfl, hb, ix5 1 (by decide), ?_⟩
    have hb2 : upd H1 b (.lst ([.ref ls, .int i, .int big, .int n, .int seed].set 1 (.int (i + 1)))) b = some (.lst [.ref ls, .int (i + 1), .int big, .int n, .int seed]) := upd_same
    have hls2 : upd H1 b (.lst ([.ref ls, .int i, .int big, .int n, .int seed].set 1 (.int (i + 1)))) ls = some (.lst (cs.map V.int)) := (upd_ne (Ne.symm hne)).trans hls
    have k2 : SamX (fun a => a = b) H1 (upd H1 b (.lst ([.ref ls, .int i, .int big, .int n, .int seed].set 1 (.int (i + 1))))) := fun a o n e => (upd_ne n).trans e
    have hi1 : i + 1 ≤ cs.length := by rw [List.length_map] at hi; omega
    refine ⟨_, rfl, _, _, rfl, rfl, ⟨by decide, by decide, by decide⟩, _, _, rfl, rfl, _, rfl, ite2 (fun hge => ?_) fun _ => ?_⟩
    · have hc0 : (10 : Int) ^ 18 ≤ c := of_decide_eq_true hge
      refine ⟨_, rfl, _, rfl, b, _, 2, 2, rfl, rfl, hb2, ix5 2 (by decide), _, rfl, k1.trans (bg_of hb (k2.trans fun a o n e => (upd_ne n).trans e) upd_same ⟨ls, cs, i + 1, c, n, seed, upd_same, (upd_ne (Ne.symm hne)).trans hls2, hne, by omega, hi1, g3, Int.le_trans (by decide) hc0, g5, g6⟩)⟩
    · refine ⟨_, rfl, _, _, _, _, rfl, rfl, SqL.of (hb2), at4, _, _, rfl, rfl, .inl ⟨by omega, by omega⟩, _, rfl, _, _, rfl, rfl, _, _, rfl, rfl, .inl ⟨_, rfl, _, _, rfl, rfl, by show (0 : Int) < 2147483629; decide, _, rfl, b, _, 4, 4, rfl, rfl, hb2, ix5 4 (by decide), _, rfl, k1.trans (bg_of hb (k2.trans fun a o n e => (upd_ne n).trans e) upd_same ⟨ls, cs, i + 1, big, n, _, upd_same, (upd_ne (Ne.symm hne)).trans hls2, hne, by omega, hi1, g3, g4, ?_, ?_⟩)⟩⟩
      · exact Int.emod_nonneg _ (by decide)
      · have := Int.emod_lt_of_pos (seed * 31 + c + 3203) (b := 2147483629) (by decide)
        show (seed * 31 + c + 3203) % 2147483629 < 2147483648
        omega
  obtain ⟨x2, rfl, k2⟩ := m2
  have hbag2 := k2.bag
  obtain ⟨ls, cs, i, big, n, seed, hb, hls, hne, g1, g2, g3, g4, g5, g6⟩ := hbag2
  refine ⟨fun σ' H' => σ' = [some (.ref b), some (.int many), x2, none, none] ∧ H' = H2, ?_, fun σ' H3 m3 => ?_⟩
  · refine ⟨_, rfl, _, _, _, _, rfl, rfl, SqL.of (hb), at2, _, _, rfl, rfl, _, rfl, ite2 (fun hpos => ?_) fun _ => ⟨rfl, rfl⟩⟩
    have hpos : (0 : Int) < big := of_decide_eq_true hpos
    obtain ⟨d, hd, hde⟩ := hdraw big
    refine ⟨_, rfl, _, _, _, _, rfl, rfl, SqL.of (hb), at2, .inl ⟨_, rfl, _, rfl, _, _, rfl, rfl, by show (0 : Int) < (many : Int); omega, ?_⟩⟩
    refine ⟨_, rfl, _, _, _, _, rfl, rfl, SqL.of (hb), at2, _, rfl, _, _, rfl, rfl, ⟨by show (0 : Int) < (many : Int); omega, by show (many : Int) < 1073741824; omega⟩, _, rfl, b, _, 2, 2, rfl, rfl, hb, ix5 2 (by decide), _, rfl, ?_⟩
    show Q (.int (big % (many : Int))) _
    rw [hde]
    refine q d _ hd (k2.trans (bg_of hb (fun a o n e => (upd_ne n).trans e) upd_same ⟨ls, cs, i, big / (many : Int), n, seed, upd_same, (upd_ne (Ne.symm hne)).trans hls, hne, g1, g2, g3, Int.ediv_nonneg g4 (by omega), g5, g6⟩))
  obtain ⟨rfl, rfl⟩ := m3
  refine ⟨_, rfl, _, _, _, _, rfl, rfl, SqL.of (hb), at4, _, _, rfl, rfl, .inl ⟨by omega, by omega⟩, _, rfl, _, _, _, _, rfl, rfl, SqL.of (hb), at3, _, _, rfl, rfl, .inr ⟨by decide, by decide⟩, _, _, rfl, rfl, _, _, rfl, rfl, .inl ⟨_, rfl, _, _, rfl, rfl, by show (0 : Int) < 2147483647; decide, ?_⟩⟩
  generalize hx1 : (seed * 40014 + n * 102841 + 5209) % 2147483647 = m1
  have a1 : 0 ≤ m1 := by rw [← hx1]; exact Int.emod_nonneg _ (by decide)
  have a2 : m1 < 2147483647 := by rw [← hx1]; exact Int.emod_lt_of_pos _ (by decide)
  refine ⟨_, rfl, _, rfl, _, _, rfl, rfl, ⟨by decide, by decide⟩, _, _, rfl, rfl, _, _, rfl, rfl, .inl ⟨by omega, by omega⟩, .inl ⟨_, rfl, _, _, rfl, rfl, by show (0 : Int) < 2147483647; decide, ?_⟩⟩
  generalize hx2 : m1 * (m1 / 1039 + 48271) % 2147483647 = m2
  have b1 : 0 ≤ m2 := by rw [← hx2]; exact Int.emod_nonneg _ (by decide)
  have b2 : m2 < 2147483647 := by rw [← hx2]; exact Int.emod_lt_of_pos _ (by decide)
  refine ⟨_, rfl, _, rfl, _, _, rfl, rfl, ⟨by decide, by decide⟩, _, _, rfl, rfl, _, _, rfl, rfl, .inl ⟨by omega, by omega⟩, .inl ⟨_, rfl, _, _, rfl, rfl, by show (0 : Int) < 2147483399; decide, ?_⟩⟩
  refine ⟨_, rfl, _, _, rfl, rfl, ⟨by decide, by decide⟩, .inl ⟨_, rfl, _, rfl, _, _, rfl, rfl, by show (0 : Int) < (many : Int); omega, ?_⟩⟩
  have hfin : ∀ x : Int, Q (.int (x % (many : Int))) H3 := fun x => by
    obtain ⟨d, hd, hde⟩ := hdraw x
    rw [hde]
    exact q d _ hd k2
  exact hfin _
abbrev N_law_pick : List PySem.Str := ["_law_bag_here", "_law_things"]
abbrev P_law_pick : List PySem.Str := ["_law_bag_here", "_law_things"]
theorem sc_law_pick : FnScope N_law_pick P_law_pick (defScope s_law_pick) := ⟨rfl, rfl, rfl, by decide +kernel, rfl, by decide +kernel, by decide +kernel⟩
def sp_law_pick : Sp := fun vs H Q _ => ∃ (b a : Addr) (us : List V), vs = [.ref b, .ref a] ∧ Bag H b ∧ H a = some (.lst us) ∧ a ≠ b ∧ 0 < us.length ∧ us.length ≤ 1000 ∧ ∀ (v : V) H', v ∈ us → Bg b H H' → Q v H'
theorem c_law_pick (D : Dfn K mg "_law_pick" s_law_pick) (T : Gs K mg w) (c_law_draw : C8.Cal P w K mg base 1 "_law_draw" sp_law_draw []) : C8.Cal P w K mg base 2 "_law_pick" sp_law_pick [] := by
  have sc := sc_law_pick
  refine mkCal D (fun _ _ _ _ _ _ us hl => match us, hl with | [_, _], _ => rfl) sc (fun vs H Q E h => by obtain ⟨b, a, us, rfl, _⟩ := h; rfl) fun cdv A outer s H vs Q E f hr h => ?_
  obtain ⟨b, a, us, rfl, hbag, ha, hab, h0, h1, q⟩ := h
  refine ⟨_, (pss_one (ps_ret (pe_ix ix_list (pv 1) (C8.pe_c c_law_draw hr (by first | decide | omega) rfl (pa_cons (pv 0) (pa_cons (pe_callB call_len_seq rfl T.len (by decide +kernel) (pa_cons (pv 1) pa_nil)) pa_nil))) (fun _ _ => rfl)))), ?_⟩
  refine ⟨_, rfl, _, rfl, _, rfl, a, us, rfl, .inl (SqL.of ha), b, us.length, rfl, hbag, h0, h1, fun d H' hd k => ?_⟩
  obtain ⟨v, hv⟩ : ∃ v, us[d]? = some v := ⟨_, List.getElem?_eq_getElem hd⟩
  exact ⟨_, _, _, _, rfl, rfl, SqL.of (k.at ha hab), atI_nat hv, q v H' (List.mem_of_getElem? hv) k⟩
/-- the names that the law draws over -/
def Nms (H : Hp) (a : Addr) (ns : List PySem.Str) : Prop := H a = some (.lst (ns.map V.str)) ∧ 0 < ns.length ∧ ns.length ≤ 100 ∧ ∀ x ∈ ns, NameOk x
abbrev N_law_leaf : List PySem.Str := ["_law_bag_here", "_law_names_here", "_law_variables"]
abbrev P_law_leaf : List PySem.Str := ["_law_bag_here", "_law_names_here", "_law_variables"]
theorem sc_law_leaf : FnScope N_law_leaf P_law_leaf (defScope s_law_leaf) := ⟨rfl, rfl, rfl, by decide +kernel, rfl, by decide +kernel, by decide +kernel⟩
def sp_law_leaf : Sp := fun vs H Q _ => ∃ (b a e : Addr) (ns : List PySem.Str), vs = [.ref b, .ref a, .ref e] ∧ Bag H b ∧ Nms H a ns ∧ a ≠ b ∧ H e = some (.lst []) ∧ ∀ (x : PySem.Str) H', x ∈ ns → Bg b H H' → Q (.str x) H'
theorem c_law_leaf (D : Dfn K mg "_law_leaf" s_law_leaf) (T : Gs K mg w) (c_law_draw : C8.Cal P w K mg base 1 "_law_draw" sp_law_draw []) (c_law_pick : C8.Cal P w K mg base 2 "_law_pick" sp_law_pick []) : C8.Cal P w K mg base 3 "_law_leaf" sp_law_leaf [] := by
  have sc := sc_law_leaf
  refine mkCal D (fun _ _ _ _ _ _ us hl => match us, hl with | [_, _, _], _ => rfl) sc (fun vs H Q E h => by obtain ⟨b, a, e, ns, rfl, _⟩ := h; rfl) fun cdv A outer s H vs Q E f hr h => ?_
  obtain ⟨b, a, e, ns, rfl, hbag, ⟨ha, hn0, hn1, hok⟩, hab, he, q⟩ := h
  refine ⟨_, (pss_cons (ps_if (PW.pt (pw_and (pt_cmpR op_gt (pe_callB call_len_seq rfl T.len (by decide +kernel) (pa_cons (pv 2) pa_nil)) pe_int (nomark _)) (pw_and1 (PW.pt (pw_or (pt_cmpR op_eq (pe_callB call_len_seq rfl T.len (by decide +kernel) (pa_cons (pv 1) pa_nil)) pe_int (nomark _)) (pw_or1 (pt_cmpR op_gt (C8.pe_c c_law_draw hr (by first | decide | omega) rfl (pa_cons (pv 0) (pa_cons pe_int pa_nil))) pe_int (nomark _)))))))) (pss_one ps_never) pss_nil) (pss_one (ps_ret (C8.pe_c c_law_pick hr (by first | decide | omega) rfl (pa_cons (pv 0) (pa_cons (pv 1) pa_nil)))))), ?_⟩
  refine ⟨_, rfl, e, _, rfl, .inl (SqL.of he), _, _, rfl, rfl, _, rfl, ifF (by rfl) (iteF ⟨_, rfl, _, rfl, b, a, _, rfl, hbag, ha, hab, by simpa using hn0, by simp; omega, fun v H' hv k => ?_⟩)⟩
  obtain ⟨x, hx, rfl⟩ := List.mem_map.mp hv
  exact q x H' hx k
abbrev N_law_pattern : List PySem.Str := ["_law_bag_here", "_law_names_here", "_law_variables", "_law_depth", "_law_kind", "_law_first", "_law_key", "_law_leaf_here", "_law_inner"]
abbrev P_law_pattern : List PySem.Str := ["_law_bag_here", "_law_names_here", "_law_variables", "_law_depth"]
theorem sc_law_pattern : FnScope N_law_pattern P_law_pattern (defScope s_law_pattern) := ⟨rfl, rfl, rfl, by decide +kernel, rfl, by decide +kernel, by decide +kernel⟩
def sp_law_pattern (n : Nat) : Sp := fun vs H Q _ => ∃ (b a e : Addr) (ns : List PySem.Str) (d : Nat), vs = [.ref b, .ref a, .ref e, .int d] ∧ Bag H b ∧ Nms H a ns ∧ a ≠ b ∧ H e = some (.lst []) ∧ e ≠ b ∧ 1 ≤ d ∧ d ≤ n ∧ ∀ (v : V) (t : Tm) H', Bg b H H' → TmV H' t v → WF (fun x => x ∈ ns) t → t.depth ≤ d → Q v H'
theorem Nms.bg {b a : Addr} {ns : List PySem.Str} {H H' : Hp} (h : Nms H a ns) (k : Bg b H H') (n : a ≠ b) : Nms H' a ns := ⟨k.at h.1 n, h.2⟩
theorem c_law_pattern (D : Dfn K mg "_law_pattern" s_law_pattern) (T : Gs K mg w) (c_law_draw : C8.Cal P w K mg base 1 "_law_draw" sp_law_draw []) (c_law_leaf : C8.Cal P w K mg base 3 "_law_leaf" sp_law_leaf []) : ∀ n, C8.Cal P w K mg base (n + 4) "_law_pattern" (sp_law_pattern n) [] := by
  have sc := sc_law_pattern
  intro n
  induction n with
  | zero =>
    refine mkCal D (fun _ _ _ _ _ _ us hl => match us, hl with | [_, _, _, _], _ => rfl) sc (fun vs H Q E h => by obtain ⟨b, a, e, ns, d, rfl, _⟩ := h; rfl) fun cdv A outer s H vs Q E f hr h => ?_
    obtain ⟨b, a, e, ns, d, rfl, _, _, _, _, _, h1, h2, _⟩ := h
    omega
  | succ n c_law_pattern =>
    refine mkCal D (fun _ _ _ _ _ _ us hl => match us, hl with | [_, _, _, _], _ => rfl) sc (fun vs H Q E h => by obtain ⟨b, a, e, ns, d, rfl, _⟩ := h; rfl) fun cdv A outer s H vs Q E f hr h => ?_
    obtain ⟨b, a, e, ns, d, rfl, hbag, hns, hab, he, heb, hd1, hdn, q⟩ := h
    refine ⟨_, (pss_cons (ps_set (i := 4) sc.nd rfl (Or.inl rfl) (C8.pe_c c_law_draw hr (by first | decide | omega) rfl (pa_cons (pv 0) (pa_cons pe_int pa_nil)))) (pss_cons (ps_if (PW.pt (pw_or (pt_cmpR op_eq (pv 3) pe_int (nomark _)) (pw_or1 (pt_cmpR op_lt (pv 4) pe_int (nomark _))))) (pss_one (ps_ret (C8.pe_c c_law_leaf hr (by first | decide | omega) rfl (pa_cons (pv 0) (pa_cons (pv 1) (pa_cons (pv 2) pa_nil)))))) pss_nil) (pss_cons (ps_if (pt_cmpR op_lt (pv 4) pe_int (nomark _)) (pss_cons (ps_set (i := 5) sc.nd rfl (Or.inl rfl) (C8.pe_c c_law_pattern hr (by first | decide | omega) rfl (pa_cons (pv 0) (pa_cons (pv 1) (pa_cons (pv 2) (pa_cons (pe_op op_sub (pv 3) pe_int) pa_nil)))))) (pss_one (ps_ret (pe_tup (pa_cons pe_str (pa_cons (pv 5) (pa_cons (C8.pe_c c_law_pattern hr (by first | decide | omega) rfl (pa_cons (pv 0) (pa_cons (pv 1) (pa_cons (pv 2) (pa_cons (pe_op op_sub (pv 3) pe_int) pa_nil))))) pa_nil))))))) pss_nil) (pss_cons (ps_if (pt_cmpR op_lt (pv 4) pe_int (nomark _)) (pss_cons (ps_set (i := 6) sc.nd rfl (Or.inl rfl) (C8.pe_c c_law_leaf hr (by first | decide | omega) rfl (pa_cons (pv 0) (pa_cons (pv 1) (pa_cons (pv 2) pa_nil))))) (pss_cons (ps_if (pt_cmpR op_eq (C8.pe_c c_law_draw hr (by first | decide | omega) rfl (pa_cons (pv 0) (pa_cons pe_int pa_nil))) pe_int (nomark _)) (pss_one (ps_set (i := 6) sc.nd rfl (Or.inl rfl) (C8.pe_c c_law_pattern hr (by first | decide | omega) rfl (pa_cons (pv 0) (pa_cons (pv 1) (pa_cons (pv 2) (pa_cons (pe_op op_sub (pv 3) pe_int) pa_nil))))))) pss_nil) (pss_one (ps_ret (pe_tup (pa_cons pe_str (pa_cons (pv 6) (pa_cons (C8.pe_c c_law_pattern hr (by first | decide | omega) rfl (pa_cons (pv 0) (pa_cons (pv 1) (pa_cons (pv 2) (pa_cons (pe_op op_sub (pv 3) pe_int) pa_nil))))) pa_nil)))))))) pss_nil) (pss_cons (ps_set (i := 7) sc.nd rfl (Or.inl rfl) (C8.pe_c c_law_leaf hr (by first | decide | omega) rfl (pa_cons (pv 0) (pa_cons (pv 1) (pa_cons (pv 2) pa_nil))))) (pss_cons (ps_if (pt_cmpR op_eq (pv 4) pe_int (nomark _)) (pss_one (ps_ret (pe_tup (pa_cons pe_str (pa_cons (pv 7) pa_nil))))) pss_nil) (pss_cons (ps_set (i := 8) sc.nd rfl (Or.inl rfl) (C8.pe_c c_law_pattern hr (by first | decide | omega) rfl (pa_cons (pv 0) (pa_cons (pv 1) (pa_cons (pv 2) (pa_cons (pe_op op_sub (pv 3) pe_int) pa_nil)))))) (pss_cons (ps_if (pt_cmpR op_eq (pv 4) pe_int (nomark _)) (pss_one (ps_ret (pe_tup (pa_cons pe_str (pa_cons (pv 7) (pa_cons (pv 8) pa_nil)))))) pss_nil) (pss_cons (ps_if (pt_cmpR op_eq (pv 4) pe_int (nomark _)) (pss_one (ps_ret (pe_tup (pa_cons pe_str (pa_cons (pv 7) (pa_cons (pv 8) pa_nil)))))) pss_nil) (pss_one (ps_ret (pe_tup (pa_cons pe_str (pa_cons (pv 8) pa_nil)))))))))))))), ?_⟩
    refine ⟨_, rfl, b, 14, rfl, hbag, by decide, by decide, fun kind H1 hkind k1 => ?_⟩
    have leafQ : ∀ (x : PySem.Str) H', x ∈ ns → Bg b H H' → Q (.str x) H' := fun x H' hx k => q _ (.nm x) H' k rfl hx hd1
    have he1 := k1.at he heb
    have hns1 := hns.bg k1 hab
    refine ⟨_, rfl, rfl, _, rfl, ite2 (fun hd => ?_) fun hd => ?_⟩
    · exact iteT ⟨_, rfl, _, rfl, _, rfl, b, a, e, ns, rfl, k1.bag, hns1, hab, he1, fun x H2 hx k2 => leafQ x H2 hx (k1.trans k2)⟩
    have hd2 : 2 ≤ d := by
      have : ¬ (d = 1) := fun z => hd (decide_eq_true (congrArg V.int (by rw [z]; rfl)))
      omega
    have hsub : (d : Int) - 1 = ((d - 1 : Nat) : Int) := by omega
    refine ⟨_, rfl, _, _, rfl, rfl, _, rfl, ite2 (fun _ => ?_) fun _ => ?_⟩
    · exact ⟨_, rfl, _, rfl, _, rfl, b, a, e, ns, rfl, k1.bag, hns1, hab, he1, fun x H2 hx k2 => leafQ x H2 hx (k1.trans k2)⟩
    -- a pair
    refine ⟨_, rfl, _, _, rfl, rfl, _, rfl, ite2 (fun _ => ?_) fun _ => ?_⟩
    · refine ⟨_, rfl, _, rfl, _, rfl, _, rfl, _, _, rfl, rfl, b, a, e, ns, d - 1, congrArg (fun z => [V.ref b, .ref a, .ref e, .int z]) hsub, k1.bag, hns1, hab, he1, heb, by omega, by omega, fun v1 t1 H2 k2 h1 w1 e1 => ?_⟩
      have k12 := k1.trans k2
      refine ⟨_, rfl, _, rfl, _, rfl, _, rfl, _, rfl, _, _, rfl, rfl, b, a, e, ns, d - 1, congrArg (fun z => [V.ref b, .ref a, .ref e, .int z]) hsub, k12.bag, hns.bg k12 hab, hab, k12.at he heb, heb, by omega, by omega, fun v2 t2 H3 k3 h2 w2 e2 => ⟨by show 3 ≤ sizeLine; decide, fun p hp => ?_⟩⟩
      exact q _ (.bi .pair t1 t2) _ ((k12.trans k3).same (sUp hp)) ⟨p, v1, v2, rfl, upd_same, (h1.mono (k3.tups k12.bag)).same (sUp hp), h2.same (sUp hp)⟩ ⟨w1, w2⟩ (by simp only [Tm.depth]; omega)
    -- a box
    refine ⟨_, rfl, _, _, rfl, rfl, _, rfl, ite2 (fun _ => ?_) fun _ => ?_⟩
    · refine ⟨_, rfl, _, rfl, _, rfl, b, a, e, ns, rfl, k1.bag, hns1, hab, he1, fun x H2 hx k2 => ?_⟩
      have k12 := k1.trans k2
      have tail : ∀ σ' v1 t1 H3, σ' = [some (V.ref b), some (V.ref a), some (V.ref e), some (V.int (d : Nat)), some (V.int (kind : Nat)), none, some v1, none, none] → Bg b H H3 → TmV H3 t1 v1 → WF (fun x => x ∈ ns) t1 → t1.depth ≤ d - 1 → ∀ H4 v2 t2 p, Bg b H3 H4 → TmV H4 t2 v2 → WF (fun x => x ∈ ns) t2 → t2.depth ≤ d - 1 → H4 p = none → Q (.ref p) (upd H4 p (.tup [V.str "box", v1, v2])) := fun σ' v1 t1 H3 _ k3 h1 w1 e1 H4 v2 t2 p k4 h2 w2 e2 hp =>
        q _ (.bi .box t1 t2) _ ((k3.trans k4).same (sUp hp)) ⟨p, v1, v2, rfl, upd_same, (h1.mono (k4.tups k3.bag)).same (sUp hp), h2.same (sUp hp)⟩ ⟨w1, w2⟩ (by simp only [Tm.depth]; omega)
      refine ⟨_, rfl, b, 5, rfl, k12.bag, by decide, by decide, fun r H3 hr' k3 => ?_⟩
      have k13 := k12.trans k3
      refine ⟨rfl, _, rfl, ite2 (fun _ => ?_) fun _ => ?_⟩
      · refine ⟨_, rfl, _, rfl, _, rfl, _, rfl, _, _, rfl, rfl, b, a, e, ns, d - 1, congrArg (fun z => [V.ref b, .ref a, .ref e, .int z]) hsub, k13.bag, hns.bg k13 hab, hab, k13.at he heb, heb, by omega, by omega, fun v1 t1 H4 k4 h1 w1 e1 => ?_⟩
        have k14 := k13.trans k4
        exact ⟨_, rfl, _, rfl, _, rfl, _, rfl, _, rfl, _, _, rfl, rfl, b, a, e, ns, d - 1, congrArg (fun z => [V.ref b, .ref a, .ref e, .int z]) hsub, k14.bag, hns.bg k14 hab, hab, k14.at he heb, heb, by omega, by omega, fun v2 t2 H5 k5 h2 w2 e2 => ⟨by show 3 ≤ sizeLine; decide, fun p hp => tail _ v1 t1 H4 rfl k14 h1 w1 e1 H5 v2 t2 p k5 h2 w2 e2 hp⟩⟩
      · exact ⟨_, rfl, _, rfl, _, rfl, _, rfl, _, rfl, _, _, rfl, rfl, b, a, e, ns, d - 1, congrArg (fun z => [V.ref b, .ref a, .ref e, .int z]) hsub, k13.bag, hns.bg k13 hab, hab, k13.at he heb, heb, by omega, by omega, fun v2 t2 H5 k5 h2 w2 e2 => ⟨by show 3 ≤ sizeLine; decide, fun p hp => tail _ (.str x) (.nm x) H3 rfl k13 rfl hx (by show 1 ≤ d - 1; omega) H5 v2 t2 p k5 h2 w2 e2 hp⟩⟩
    -- a key first
    refine ⟨_, rfl, _, rfl, _, rfl, b, a, e, ns, rfl, k1.bag, hns1, hab, he1, fun x H2 hx k2 => ?_⟩
    have k12 := k1.trans k2
    refine ⟨_, rfl, rfl, _, rfl, ite2 (fun _ => ?_) fun _ => ?_⟩
    · exact ⟨_, rfl, by show 2 ≤ sizeLine; decide, fun p hp => q _ (.un .half (.nm x)) _ (k12.same (sUp hp)) ⟨p, .str x, rfl, upd_same, rfl⟩ ⟨x, rfl, hx⟩ (by simp only [Tm.depth]; omega)⟩
    refine ⟨_, rfl, _, rfl, _, rfl, _, rfl, _, _, rfl, rfl, b, a, e, ns, d - 1, congrArg (fun z => [V.ref b, .ref a, .ref e, .int z]) hsub, k12.bag, hns.bg k12 hab, hab, k12.at he heb, heb, by omega, by omega, fun v1 t1 H3 k3 h1 w1 e1 => ?_⟩
    have k13 := k12.trans k3
    refine ⟨_, rfl, rfl, _, rfl, ite2 (fun _ => ?_) fun _ => ?_⟩
    · exact ⟨_, rfl, _, rfl, by show 3 ≤ sizeLine; decide, fun p hp => q _ (.bi .shut (.nm x) t1) _ (k13.same (sUp hp)) ⟨p, .str x, v1, rfl, upd_same, rfl, h1.same (sUp hp)⟩ ⟨⟨x, rfl, hx⟩, w1⟩ (by simp only [Tm.depth]; omega)⟩
    refine ⟨_, rfl, rfl, _, rfl, ite2 (fun _ => ?_) fun _ => ?_⟩
    · exact ⟨_, rfl, _, rfl, by show 3 ≤ sizeLine; decide, fun p hp => q _ (.bi .mark (.nm x) t1) _ (k13.same (sUp hp)) ⟨p, .str x, v1, rfl, upd_same, rfl, h1.same (sUp hp)⟩ ⟨⟨x, rfl, hx⟩, w1⟩ (by simp only [Tm.depth]; omega)⟩
    · exact ⟨_, rfl, by show 2 ≤ sizeLine; decide, fun p hp => q _ (.un .mix t1) _ (k13.same (sUp hp)) ⟨p, v1, rfl, upd_same, h1.same (sUp hp)⟩ w1 (by simp only [Tm.depth]; omega)⟩
abbrev N_law_term : List PySem.Str := ["_law_bag_here", "_law_names_here", "_law_depth"]
abbrev P_law_term : List PySem.Str := ["_law_bag_here", "_law_names_here", "_law_depth"]
theorem sc_law_term : FnScope N_law_term P_law_term (defScope s_law_term) := ⟨rfl, rfl, rfl, by decide +kernel, rfl, by decide +kernel, by decide +kernel⟩
def sp_law_term : Sp := fun vs H Q _ => ∃ (b a : Addr) (ns : List PySem.Str) (d : Nat), vs = [.ref b, .ref a, .int d] ∧ Bag H b ∧ Nms H a ns ∧ a ≠ b ∧ 1 ≤ d ∧ d ≤ 4 ∧ ∀ (v : V) (t : Tm) H', Bg b H H' → TmV H' t v → WF (fun x => x ∈ ns) t → t.depth ≤ d → Q v H'
theorem c_law_term (D : Dfn K mg "_law_term" s_law_term) (T : Gs K mg w) (c_law_pattern : C8.Cal P w K mg base 8 "_law_pattern" (sp_law_pattern 4) []) : C8.Cal P w K mg base 9 "_law_term" sp_law_term [] := by
  have sc := sc_law_term
  refine mkCal D (fun _ _ _ _ _ _ us hl => match us, hl with | [_, _, _], _ => rfl) sc (fun vs H Q E h => by obtain ⟨b, a, ns, d, rfl, _⟩ := h; rfl) fun cdv A outer s H vs Q E f hr h => ?_
  obtain ⟨b, a, ns, d, rfl, hbag, hns, hab, h1, h4, q⟩ := h
  refine ⟨_, (pss_one (ps_ret (C8.pe_c c_law_pattern hr (by first | decide | omega) rfl (pa_cons (pv 0) (pa_cons (pv 1) (pa_cons (pe_lst pa_nil) (pa_cons (pv 2) pa_nil))))))), ?_⟩
  refine ⟨_, rfl, _, rfl, by show 0 ≤ sizeLine; decide, fun e he => ⟨_, rfl, b, a, e, ns, d, rfl, hbag.same (sUp he), ⟨sUp he _ _ hns.1, hns.2⟩, hab, upd_same, fun z => hbag.some (z ▸ he), h1, h4, fun v t H' k ht hw hd => q v t H' ((Same.bg (sUp he) hbag).trans k) ht hw hd⟩⟩
end
end Kt
/-! The walks: checks. -/
namespace Kt
open PySem PySem.Spec PyProof.Rows L2
open Tm
section
variable {P : Program} {w : World} {K : PySem.W.Frag} {mg : PySem.Str → Option Value} {base : Heap}
/-! ### the law's own comparison -/
/-- the same, looked at n levels down -/
def Sm : Nat → Hp → V → V → Prop
  | 0, _, _, _ => False
  | n + 1, H, v, u => (∃ x, v = .str x ∧ u = .str x) ∨ ∃ (p q : Addr) (xs ys : List V), v = .ref p ∧ u = .ref q ∧ ((H p = some (.tup xs) ∧ H q = some (.tup ys)) ∨ (H p = some (.lst xs) ∧ H q = some (.lst ys))) ∧ xs.length = ys.length ∧ xs.length ≤ 1000 ∧ ∀ (i : Nat) (x y : V), xs[i]? = some x → ys[i]? = some y → Sm n H x y
theorem Sm.same {H H' : Hp} (k : Same H H') : ∀ {n : Nat} {v u : V}, Sm n H v u → Sm n H' v u
  | 0, _, _, h => h
  | n + 1, v, u, h => by
    rcases h with h | ⟨p, q, xs, ys, e1, e2, h, hl, h1, h2⟩
    · exact .inl h
    · refine .inr ⟨p, q, xs, ys, e1, e2, h.imp (fun h => ⟨k _ _ h.1, k _ _ h.2⟩) fun h => ⟨k _ _ h.1, k _ _ h.2⟩, hl, h1, fun i x y a b => Sm.same k (h2 i x y a b)⟩
theorem sm_tm {H : Hp} : ∀ (n : Nat) {t : Tm} {v u : V}, t.depth ≤ n → TmV H t v → TmV H t u → Sm (n + 1) H v u
  | n, .nm x, v, u, _, h1, h2 => .inl ⟨x, h1, h2⟩
  | 0, .un _ a, _, _, hd, _, _ => by have := depth_pos a; have hd : a.depth + 1 ≤ 0 := hd; omega
  | 0, .bi _ a b, _, _, hd, _, _ => by have hd : max a.depth b.depth + 1 ≤ 0 := hd; omega
  | n + 1, .un g a, v, u, hd, ⟨p, va, e1, h1, h2⟩, ⟨q, ua, e2, h3, h4⟩ => .inr ⟨p, q, _, _, e1, e2, .inl ⟨h1, h3⟩, rfl, by show 2 ≤ 1000; decide, fun i x y c d => by
    have hd : a.depth + 1 ≤ n + 1 := hd
    match i, c, d with
    | 0, c, d => cases c; cases d; exact .inl ⟨_, rfl, rfl⟩
    | 1, c, d => cases c; cases d; exact sm_tm n (by omega) h2 h4
    | i + 2, c, d => cases c⟩
  | n + 1, .bi g a b, v, u, hd, ⟨p, va, vb, e1, h1, h2, h2'⟩, ⟨q, ua, ub, e2, h3, h4, h4'⟩ => .inr ⟨p, q, _, _, e1, e2, .inl ⟨h1, h3⟩, rfl, by show 3 ≤ 1000; decide, fun i x y c d => by
    have hd : max a.depth b.depth + 1 ≤ n + 1 := hd
    match i, c, d with
    | 0, c, d => cases c; cases d; exact .inl ⟨_, rfl, rfl⟩
    | 1, c, d => cases c; cases d; exact sm_tm n (by omega) h2 h4
    | 2, c, d => cases c; cases d; exact sm_tm n (by omega) h2' h4'
    | i + 3, c, d => cases c⟩
theorem sm_list {H : Hp} {n : Nat} {ts : List Tm} {p q : Addr} {us ws : List V} (hd : ∀ t ∈ ts, t.depth ≤ n) (hp : H p = some (.lst us)) (hq : H q = some (.lst ws)) (h1 : TmVs H ts us) (h2 : TmVs H ts ws) (hl : ts.length ≤ 1000) : Sm (n + 2) H (.ref p) (.ref q) := by
  have l1 := Paired.length h1
  have l2 := Paired.length h2
  refine .inr ⟨p, q, us, ws, rfl, rfl, .inr ⟨hp, hq⟩, by omega, by omega, fun i x y a b => ?_⟩
  obtain ⟨t, ht, hx⟩ := paired_at' h1 a
  obtain ⟨y', hy', hy⟩ := paired_at h2 ht
  rw [b] at hy'
  cases hy'
  exact sm_tm n (hd t (List.mem_of_getElem? ht)) hx hy
abbrev N_law_same : List PySem.Str := ["_law_actual", "_law_due", "_law_key", "_law_k"]
abbrev P_law_same : List PySem.Str := ["_law_actual", "_law_due"]
theorem sc_law_same : FnScope N_law_same P_law_same (defScope s_law_same) := ⟨rfl, rfl, rfl, by decide +kernel, rfl, by decide +kernel, by decide +kernel⟩
def sp_law_same (n : Nat) : Sp := fun vs H Q _ => ∃ v u, vs = [v, u] ∧ Sm n H v u ∧ ∀ H', Same H H' → Q (.bl true) H'
theorem c_law_same (D : Dfn K mg "_law_same" s_law_same) (T : Gs K mg w) : ∀ n, C8.Cal P w K mg base (n + 1) "_law_same" (sp_law_same n) [] := by
  have sc := sc_law_same
  intro n
  induction n with
  | zero =>
    refine mkCal D (fun _ _ _ _ _ _ us hl => match us, hl with | [_, _], _ => rfl) sc (fun vs H Q E h => by obtain ⟨v, u, rfl, _⟩ := h; rfl) fun cdv A outer s H vs Q E f hr h => ?_
    obtain ⟨v, u, rfl, h0, _⟩ := h
    exact h0.elim
  | succ n c_law_same =>
    refine mkCal D (fun _ _ _ _ _ _ us hl => match us, hl with | [_, _], _ => rfl) sc (fun vs H Q E h => by obtain ⟨v, u, rfl, _⟩ := h; rfl) fun cdv A outer s H vs Q E f hr h => ?_
    obtain ⟨v, u, rfl, hs, q⟩ := h
    refine ⟨_, (pss_cons (ps_if (pt_cmpR op_isN (pv 1) pe_non (nomark _)) (pss_one (ps_ret (pe_cmpR op_isN (pv 0) pe_non (nomark _)))) pss_nil) (pss_cons (ps_if (PW.pt (pw_or (pt_val (pe_callB (call_isK .bl) rfl T.isinstance (by decide +kernel) (pa_cons (pv 1) (pa_cons (pe_kn .bl rfl T.bool) pa_nil)))) (pw_or1 (pt_val (pe_callB (call_isK .bl) rfl T.isinstance (by decide +kernel) (pa_cons (pv 0) (pa_cons (pe_kn .bl rfl T.bool) pa_nil))))))) (pss_one (ps_ret (pe_and (pe_callB (call_isK .bl) rfl T.isinstance (by decide +kernel) (pa_cons (pv 1) (pa_cons (pe_kn .bl rfl T.bool) pa_nil))) (pe_and (pe_callB (call_isK .bl) rfl T.isinstance (by decide +kernel) (pa_cons (pv 0) (pa_cons (pe_kn .bl rfl T.bool) pa_nil))) (pe_one (pe_cmpR op_eq (pv 0) (pv 1) (nomark _))))))) pss_nil) (pss_cons (ps_if (pt_val (pe_callB (call_isK .int) rfl T.isinstance (by decide +kernel) (pa_cons (pv 1) (pa_cons (pe_kn .int rfl T.int) pa_nil)))) (pss_one (ps_ret (pe_and (pe_callB (call_isK .int) rfl T.isinstance (by decide +kernel) (pa_cons (pv 0) (pa_cons (pe_kn .int rfl T.int) pa_nil))) (pe_one (pe_cmpR op_eq (pv 0) (pv 1) (nomark _)))))) pss_nil) (pss_cons (ps_if (pt_val (pe_callB (call_isK .str) rfl T.isinstance (by decide +kernel) (pa_cons (pv 1) (pa_cons (pe_kn .str rfl T.str) pa_nil)))) (pss_one (ps_ret (pe_and (pe_callB (call_isK .str) rfl T.isinstance (by decide +kernel) (pa_cons (pv 0) (pa_cons (pe_kn .str rfl T.str) pa_nil))) (pe_one (pe_cmpR op_eq (pv 0) (pv 1) (nomark _)))))) pss_nil) (pss_cons (ps_if (pt_val (pe_callB (call_isK .dic) rfl T.isinstance (by decide +kernel) (pa_cons (pv 1) (pa_cons (pe_kn .dic rfl T.dict) pa_nil)))) (pss_cons ps_never (pss_one ps_never)) pss_nil) (pss_cons (ps_if (PW.pt (pw_or (pt_cmpR op_ne (pe_callB (call_isK .lst) rfl T.isinstance (by decide +kernel) (pa_cons (pv 1) (pa_cons (pe_kn .lst rfl T.list) pa_nil))) (pe_callB (call_isK .lst) rfl T.isinstance (by decide +kernel) (pa_cons (pv 0) (pa_cons (pe_kn .lst rfl T.list) pa_nil))) (nomark _)) (pw_or1 (pt_not (pt_val (pe_callB (call_isK2 .lst .tup) rfl T.isinstance (by decide +kernel) (pa_cons (pv 0) (pa_cons (pe_tup (pa_cons (pe_kn .lst rfl T.list) (pa_cons (pe_kn .tup rfl T.tuple) pa_nil))) pa_nil)))))))) (pss_one (ps_ret pe_bl)) pss_nil) (pss_cons (ps_if (pt_cmpR op_ne (pe_callB call_len_seq rfl T.len (by decide +kernel) (pa_cons (pv 0) pa_nil)) (pe_callB call_len_seq rfl T.len (by decide +kernel) (pa_cons (pv 1) pa_nil)) (nomark _)) (pss_one (ps_ret pe_bl)) pss_nil) (pss_one (ps_ret (pe_cmpR op_eq (pe_callB call_len_seq rfl T.len (by decide +kernel) (pa_cons (pe_lc (own := [("_law_k", 3)]) (g := gName 3) rfl sc.nd (pi_range1 rfl T.range (pa_cons (pe_callB call_len_seq rfl T.len (by decide +kernel) (pa_cons (pv 1) pa_nil)) pa_nil)) (blkOk_by (N := N_law_same) (sc := defScope s_law_same) (by decide +kernel)) (fun _ _ _ _ _ => (pg_name (i := 3) sc.nd rfl (Or.inl rfl))) (fun _ _ _ _ _ => pts_one (pt_not (pt_val (C8.pe_c c_law_same hr (by first | decide | omega) rfl (pa_cons (pe_ix (show IxR _ (rIx K) from ix_seq) (pv 0) (pv 3) (fun _ _ => rfl)) (pa_cons (pe_ix (show IxR _ (rIx K) from ix_seq) (pv 1) (pv 3) (fun _ _ => rfl)) pa_nil)))))) (fun _ _ _ _ _ => (pv 3))) pa_nil)) pe_int (nomark _))))))))))), ?_⟩
    rcases hs with ⟨x, rfl, rfl⟩ | ⟨p1, p2, xs, ys, rfl, rfl, hk, hl, h1000, hsub⟩
    · refine ⟨_, rfl, rfl, _, rfl, ifF (decide_eq_false fun z => by cases z) ⟨_, rfl, rfl, _, .str x, _, rfl, iteF ⟨_, rfl, rfl, _, .str x, _, rfl, iteF ⟨_, rfl, rfl, _, .str x, _, rfl, iteF ⟨_, rfl, rfl, _, .str x, _, rfl, iteT ⟨_, rfl, rfl, _, .str x, _, rfl, iteT ⟨_, rfl, _, rfl, rfl, ?_⟩⟩⟩⟩⟩⟩⟩
      rw [decide_eq_true rfl]
      exact q H (Same.refl _)
    · -- both tuples or both lists
      obtain ⟨k, hk1, hk2, hkk⟩ : ∃ k : Kn, Kd H (.ref p1) k ∧ Kd H (.ref p2) k ∧ (k = .tup ∨ k = .lst) := by
        rcases hk with ⟨h1, h2⟩ | ⟨h1, h2⟩
        · exact ⟨.tup, .tup h1, .tup h2, .inl rfl⟩
        · exact ⟨.lst, .lst h1, .lst h2, .inr rfl⟩
      have kb : isK k .bl = false := by rcases hkk with rfl | rfl <;> rfl
      have ki : isK k .int = false := by rcases hkk with rfl | rfl <;> rfl
      have ks : isK k .str = false := by rcases hkk with rfl | rfl <;> rfl
      have kd : isK k .dic = false := by rcases hkk with rfl | rfl <;> rfl
      have kt : (isK k .lst || isK k .tup) = true := by rcases hkk with rfl | rfl <;> rfl
      have seq1 : ∀ H', Same H H' → (SqL K H' p1 xs ∨ SqT K H' p1 xs) := fun H' s => by
        rcases hk with ⟨h1, h2⟩ | ⟨h1, h2⟩
        · exact .inr (SqT.of (s _ _ h1))
        · exact .inl (SqL.of (s _ _ h1))
      have seq2 : ∀ H', Same H H' → (SqL K H' p2 ys ∨ SqT K H' p2 ys) := fun H' s => by
        rcases hk with ⟨h1, h2⟩ | ⟨h1, h2⟩
        · exact .inr (SqT.of (s _ _ h2))
        · exact .inl (SqL.of (s _ _ h2))
      refine ⟨_, rfl, rfl, _, rfl, ifF (decide_eq_false fun z => by cases z) ⟨_, rfl, rfl, _, hk2, _, rfl, ifF kb ⟨_, rfl, rfl, _, hk1, _, rfl, ifF kb ⟨_, rfl, rfl, _, hk2, _, rfl, ifF ki ⟨_, rfl, rfl, _, hk2, _, rfl, ifF ks ⟨_, rfl, rfl, _, hk2, _, rfl, ifF kd ?_⟩⟩⟩⟩⟩⟩
      refine ⟨_, rfl, rfl, _, hk2, _, rfl, rfl, _, hk1, rfl, _, rfl, ifF ?_ ⟨_, rfl, by show 2 ≤ sizeLine; decide, fun p3 hp3 => ⟨upd_same, _, hk1.same (sUp hp3), _, rfl, ifF (by rw [kt]; rfl) ?_⟩⟩⟩
      · rw [decide_eq_true rfl]; rfl
      have s3 := sUp (o := .tup [.ty Kn.lst.n, .ty Kn.tup.n]) hp3
      refine ⟨_, rfl, p1, xs, rfl, seq1 _ s3, _, rfl, p2, ys, rfl, seq2 _ s3, rfl, _, rfl, ifF (by rw [decide_eq_true (congrArg V.int (by rw [hl]))]; rfl) ?_⟩
      refine ⟨_, rfl, p2, ys, rfl, seq2 _ s3, _, rfl, by omega, by omega, fun L hL => ?_⟩
      refine lc_it walk_range (fun i H' => SamX (fun b => b = L) (upd H p3 (.tup [.ty Kn.lst.n, .ty Kn.tup.n])) H' ∧ H' L = some (.lst [])) ⟨(SamX.refl _ _).up hL, upd_same⟩ (fun _ _ _ _ => trivial) (fun i y H1 H2 hi pp yy => ?_) (fun H1 pp => ?_)
      · obtain ⟨k1, hL1⟩ := pp
        obtain ⟨rfl, rfl⟩ := yy
        have hi : i < ys.length := by simpa using hi
        have sH : Same H H2 := s3.trans (same_new k1 hL)
        obtain ⟨x, hx⟩ : ∃ x, xs[i]? = some x := ⟨_, List.getElem?_eq_getElem (by omega)⟩
        obtain ⟨z, hz⟩ : ∃ z, ys[i]? = some z := ⟨_, List.getElem?_eq_getElem hi⟩
        have e0 : (0 : Int) + (i : Nat) = (i : Nat) := by omega
        have ix1 : ∀ {Q : VK}, Q x H2 → rIx K (.ref p1) (.int (0 + (i : Nat))) H2 Q := fun {Q} qq => by
          rw [e0]
          rcases seq1 _ sH with h | h
          · exact .inl ⟨p1, xs, _, x, rfl, rfl, h, atI_nat hx, qq⟩
          · exact .inr (.inl ⟨p1, xs, _, x, rfl, rfl, h, atI_nat hx, qq⟩)
        have ix2 : ∀ {Q : VK}, Q z H2 → rIx K (.ref p2) (.int (0 + (i : Nat))) H2 Q := fun {Q} qq => by
          rw [e0]
          rcases seq2 _ sH with h | h
          · exact .inl ⟨p2, ys, _, z, rfl, rfl, h, atI_nat hz, qq⟩
          · exact .inr (.inl ⟨p2, ys, _, z, rfl, rfl, h, atI_nat hz, qq⟩)
        refine ⟨rfl, _, rfl, _, rfl, ix1 ⟨_, rfl, _, rfl, ix2 ⟨x, z, rfl, (hsub i x z hx hz).same sH, fun H3 k3 => ⟨_, rfl, ?_⟩⟩⟩⟩
        exact iteF ⟨k1.trans (Same.x _ k3), k3 _ _ hL1⟩
      · obtain ⟨k1, hL1⟩ := pp
        exact ⟨L, [], rfl, .inl (SqL.of hL1), rfl, q H1 (s3.trans (same_new k1 hL))⟩
/-! ### parts -/
abbrev N_law_parts : List PySem.Str := ["_law_term_here", "_law_row", "_law_part", "_law_inner"]
abbrev P_law_parts : List PySem.Str := ["_law_term_here"]
theorem sc_law_parts : FnScope N_law_parts P_law_parts (defScope s_law_parts) := ⟨rfl, rfl, rfl, by decide +kernel, rfl, by decide +kernel, by decide +kernel⟩
def sp_law_parts (n : Nat) : Sp := fun vs H Q _ => ∃ v t, vs = [v] ∧ TmV H t v ∧ WF NameOk t ∧ t.depth ≤ n ∧ t.depth ≤ 5 ∧ ∀ p H' F us, Same H H' → H p = none → H' p = some (.lst us) → TmVs H' F us → 0 < F.length → F.length + 1 ≤ 2 ^ n → (∀ x ∈ F, WF NameOk x ∧ x.depth ≤ t.depth) → (∀ U, KidsIn U → t ∈ U → ∀ x ∈ F, x ∈ U) → Q (.ref p) H'
theorem c_law_parts (D : Dfn K mg "_law_parts" s_law_parts) (T : Gs K mg w) : ∀ n, n ≤ 5 → C8.Cal P w K mg base (n + 1) "_law_parts" (sp_law_parts n) [] := by
  have sc := sc_law_parts
  intro n
  induction n with
  | zero =>
    intro _
    refine mkCal D (fun _ _ _ _ _ _ us hl => match us, hl with | [_], _ => rfl) sc (fun vs H Q E h => by obtain ⟨v, t, rfl, _⟩ := h; rfl) fun cdv A outer s H vs Q E f hr h => ?_
    obtain ⟨v, t, rfl, _, _, h0, _⟩ := h
    exact absurd (depth_pos t) (by omega)
  | succ n ih =>
    intro hn5
    have c_law_parts := ih (by omega)
    refine mkCal D (fun _ _ _ _ _ _ us hl => match us, hl with | [_], _ => rfl) sc (fun vs H Q E h => by obtain ⟨v, t, rfl, _⟩ := h; rfl) fun cdv A outer s H vs Q E f hr h => ?_
    obtain ⟨v, t, rfl, ht, hw, hn, h5, q⟩ := h
    refine ⟨_, (pss_cons (ps_set (i := 1) sc.nd rfl (Or.inr rfl) (pe_lst (pa_cons (pv 0) pa_nil))) (pss_cons (ps_if (pt_not (pt_val (pe_callB (call_isK .str) rfl T.isinstance (by decide +kernel) (pa_cons (pv 0) (pa_cons (pe_kn .str rfl T.str) pa_nil))))) (pss_one (ps_for PassesOwn.never rfl (pi_tup (pe_slice sl_tup (pv 0) (po_some pe_int) po_no)) (pg_name (i := 2) sc.nd rfl (Or.inl rfl)) (pss_one (ps_set (i := 1) sc.nd rfl (Or.inr rfl) (pe_op op_cat (pv 1) (pe_lc (own := [("_law_inner", 3)]) (g := gName 3) rfl sc.nd (pi_list (C8.pe_c c_law_parts hr (by first | decide | omega) rfl (pa_cons (pv 2) pa_nil))) (blkOk_by (N := N_law_parts) (sc := defScope s_law_parts) (by decide +kernel)) (fun _ _ _ _ _ => (pg_name (i := 3) sc.nd rfl (Or.inl rfl))) (fun _ _ _ _ _ => pts_one (pt_cmpR (show OpR _ _ (rNotInD K) from (op_notInD (hu65 hr))) (pv 3) (pv 1) rfl)) (fun _ _ _ _ _ => (pv 3)))))))) pss_nil) (pss_one (ps_ret (pv 1))))), ?_⟩
    have hpow : 2 ≤ 2 ^ (n + 1) := by have := Nat.one_le_two_pow (n := n); rw [Nat.pow_succ]; omega
    refine ⟨_, rfl, by show 1 ≤ sizeLine; decide, fun R hR => ?_⟩
    have hRv : TmVs (upd H R (.lst [v])) [t] [v] := .cons (ht.same (sUp hR)) .nil
    cases nn : t.isNm with
    | true =>
      refine ⟨_, rfl, rfl, _, kdT (ht.same (sUp hR)) nn, _, rfl, iteF ⟨_, rfl, q R _ [t] [v] (sUp hR) hR upd_same hRv (by simp) (by simpa using hpow) (fun x hx => ?_) fun U _ htU x hx => ?_⟩⟩
      · rw [List.mem_singleton] at hx; subst hx; exact ⟨hw, Nat.le_refl _⟩
      · rw [List.mem_singleton] at hx; subst hx; exact htU
    | false =>
      obtain ⟨p, ks, rfl, hp, hks⟩ := tm_tup ht nn
      have hkl : ks.length = t.kids.length := (Paired.length hks).symm
      have hkl2 := kids_len nn
      refine ⟨_, rfl, rfl, _, kdF (ht.same (sUp hR)) nn, _, rfl, iteT ⟨_, rfl, _, rfl, ?_⟩⟩
      refine sl1 (K := K) (a := .str t.hd) (ks := ks) (SqT.of (sUp hR _ _ hp)) fun p' hp' => ?_
      have k1 : Same H (upd (upd H R (.lst [V.ref p])) p' (.tup ks)) := (sUp hR).trans (sUp hp')
      have hR1 : upd (upd H R (.lst [V.ref p])) p' (.tup ks) R = some (.lst [.ref p]) := sUp hp' _ _ upd_same
      have hks1 := TmVs.same k1 hks
      have hp1 : upd (upd H R (.lst [V.ref p])) p' (.tup ks) p' = some (.tup ks) := upd_same
      have ht1 := ht.same k1
      generalize upd (upd H R (.lst [V.ref p])) p' (.tup ks) = H1 at k1 hR1 hks1 hp1 ht1 ⊢
      have hmp : (2 : Nat) ^ (n + 1) = 2 * 2 ^ n := by rw [Nat.pow_succ]; omega
      refine ⟨p', rfl, ⟨_, SqT.of hp1⟩, for_it walk_tup (fun i σ' H' => ∃ R' x2 F us, σ' = [some (.ref p), some (.ref R'), x2, none] ∧ Same H1 H' ∧ H R' = none ∧ H' R' = some (.lst us) ∧ TmVs H' F us ∧ 0 < F.length ∧ F.length + i ≤ 1 + i * 2 ^ n ∧ (∀ x ∈ F, WF NameOk x ∧ x.depth ≤ t.depth) ∧ (∀ U, KidsIn U → t ∈ U → ∀ x ∈ F, x ∈ U))
        ⟨R, none, [t], _, rfl, Same.refl _, hR, hR1, .cons ht1 .nil, by simp, by simp, fun x hx => by rw [List.mem_singleton] at hx; subst hx; exact ⟨hw, Nat.le_refl _⟩, fun U _ htU x hx => by rw [List.mem_singleton] at hx; subst hx; exact htU⟩ (fun i σ' H' _ pp => by obtain ⟨_, _, _, _, _, k, _⟩ := pp; exact SqT.of (k _ _ hp1)) (fun i y σ' H2 H3 hi pp yy => ?_) (fun σ' H2 pp => ?_)⟩
      · obtain ⟨R', x2, F, us, rfl, k2, hRn, hR2, hFv, hF0, hFl, hFg, hFU⟩ := pp
        obtain ⟨rfl, hy⟩ := yy
        obtain ⟨kt, hkt⟩ : ∃ kt, t.kids[i]? = some kt := ⟨_, List.getElem?_eq_getElem (by omega)⟩
        obtain ⟨y', hy', hty⟩ := paired_at hks1 hkt
        have e : y' = y := by rw [hy] at hy'; exact (Option.some.inj hy').symm
        subst e
        have hmem := List.mem_of_getElem? hkt
        have hdk := kdepth hmem
        have hul : us.length = F.length := (Paired.length hFv).symm
        refine ⟨_, rfl, _, rfl, y', kt, rfl, hty.same k2, WF.kid hw hmem, by omega, by omega, fun p4 H4 G ws k4 hn4 hp4 hG hG0 hGl hGg hGU => ⟨p4, rfl, ⟨_, SqL.of hp4⟩, fun L hL => ?_⟩⟩
        have hwl : ws.length = G.length := (Paired.length hG).symm
        have hR4 := k4 _ _ hR2
        have hFv4 := TmVs.same k4 hFv
        have hi2 : i ≤ 1 := by omega
        have hib : i * 2 ^ n ≤ 2 ^ n := by
          have : i * 2 ^ n ≤ 1 * 2 ^ n := Nat.mul_le_mul_right _ hi2
          omega
        have hpow5 : 2 ^ n ≤ 16 := by
          have := Nat.pow_le_pow_right (n := 2) (by decide) (show n ≤ 4 by omega)
          exact this
        have hDp : ∀ H', Same H4 H' → Dp K H' (.ref R') (.list (F.map dat)) := fun H' k => .lst (SqL.of (k _ _ hR4)) (dpAll_of (by simp [hul]) fun j v d e1 e2 => by
          obtain ⟨tj, htj, hv⟩ := paired_at' (TmVs.same k hFv4) e1
          rw [List.getElem?_map, htj] at e2
          cases e2
          exact dp_tm hv)
        have hSh : SeqAt.shaped (.list (F.map dat)) = true := by
          unfold SeqAt.shaped
          have h1 : ∀ l : List Tm, (∀ x ∈ l, WF NameOk x ∧ x.depth ≤ t.depth) → PyData.canLayAll0 (l.map dat) = true ∧ PyData.depthAll (l.map dat) ≤ 10 := fun l hl => by
            induction l with
            | nil => exact ⟨rfl, Nat.zero_le _⟩
            | cons a r ih =>
              have ha := hl a (by simp)
              obtain ⟨d1, d2⟩ := dat_ok ha.1
              obtain ⟨i1, i2⟩ := ih fun x hx => hl x (by simp [hx])
              refine ⟨?_, ?_⟩
              · show (PyData.canLay0 (dat a) && PyData.canLayAll0 (r.map dat)) = true
                rw [d1, i1]; rfl
              · show max (PyData.depth (dat a)) (PyData.depthAll (r.map dat)) ≤ 10
                have := ha.2
                omega
          obtain ⟨g1, g2⟩ := h1 F hFg
          show (PyData.canLayAll0 (F.map dat) && decide (PyData.depthAll (F.map dat) + 1 ≤ 64)) = true
          rw [g1, decide_eq_true (by omega)]
          rfl
        refine lc_it walk_list (fun j H' => SamX (fun b => b = L) H4 H' ∧ ∃ G' us', H' L = some (.lst us') ∧ TmVs H' G' us' ∧ G'.length ≤ j ∧ ∀ x ∈ G', x ∈ G) ⟨(SamX.refl _ _).up hL, [], [], upd_same, .nil, Nat.zero_le _, fun x hx => (by cases hx)⟩ (fun j H' _ pp => SqL.of (same_new pp.1 hL _ _ hp4)) (fun j y2 H5 H6 hj pp yy2 => ?_) (fun H5 pp => ?_)
        · obtain ⟨k5, G', us', hL5, hG', hGl', hGs'⟩ := pp
          obtain ⟨rfl, hy2⟩ := yy2
          have s5 := same_new k5 hL
          obtain ⟨tj, htj, hv⟩ := paired_at' (TmVs.same s5 hG) hy2
          have htjm := List.mem_of_getElem? htj
          have hgj := hGg tj htjm
          have hgul : us'.length = G'.length := (Paired.length hG').symm
          have tu : ∀ o, Tups H6 (upd H6 L o) := fun o => tups_up (fun xs e => by rw [hL5] at e; cases e)
          refine ⟨rfl, _, rfl, _, rfl, dat tj, F.map dat, dp_tm hv, hDp _ s5, dat_shaped hgj.1 (by omega), hSh, _, rfl, ite2 (fun _ => ?_) fun _ => ?_⟩
          · refine ⟨_, rfl, us', hL5, lt_line (by omega), k5.trans fun b o n e => (upd_ne n).trans e, G' ++ [tj], _, upd_same, paired_app (TmVs.mono (tu _) hG') (.cons (hv.mono (tu _)) .nil), by simp; omega, fun x hx => ?_⟩
            rcases List.mem_append.mp hx with hx | hx
            · exact hGs' x hx
            · rw [List.mem_singleton] at hx; exact hx ▸ htjm
          · exact ⟨k5, G', us', hL5, hG', by omega, hGs'⟩
        · obtain ⟨k5, G', us', hL5, hG', hGl', hGs'⟩ := pp
          have s5 := same_new k5 hL
          have hgul : us'.length = G'.length := (Paired.length hG').symm
          refine ⟨R', L, us, us', rfl, rfl, s5 _ _ hR4, hL5, le_line (by omega), fun p6 hp6 => ?_⟩
          have s6 := sUp (o := .lst (us ++ us')) hp6
          have sAll : Same H H5 := k1.trans (k2.trans (k4.trans s5))
          refine ⟨p6, _, F ++ G', _, rfl, k2.trans (k4.trans (s5.trans s6)), Same.free sAll hp6, upd_same, paired_app (TmVs.same (s5.trans s6) hFv4) (TmVs.same s6 hG'), by rw [List.length_append]; omega, ?_, fun x hx => ?_, fun U hU htU x hx => ?_⟩
          · rw [List.length_append, Nat.add_mul]
            omega
          · rcases List.mem_append.mp hx with hx | hx
            · exact hFg x hx
            · have := hGg x (hGs' x hx)
              exact ⟨this.1, by omega⟩
          · rcases List.mem_append.mp hx with hx | hx
            · exact hFU U hU htU x hx
            · exact hGU U hU (hU t htU kt hmem) x (hGs' x hx)
      · obtain ⟨R', x2, F, us, rfl, k2, hRn, hR2, hFv, hF0, hFl, hFg, hFU⟩ := pp
        refine ⟨_, rfl, q R' _ F us (k1.trans k2) hRn hR2 hFv hF0 ?_ hFg hFU⟩
        have h4 := Nat.one_le_two_pow (n := n)
        rcases hkl2 with h | h <;> rw [hkl, h] at hFl <;> omega
end
end Kt
/-! The walks: checks. -/
namespace Kt
open PySem PySem.Spec PyProof.Rows L2
open Tm
section
variable {P : Program} {w : World} {K : PySem.W.Frag} {mg : PySem.Str → Option Value} {base : Heap}
/-! ### names -/
theorem inV_names {x : PySem.Str} {ns : List PySem.Str} : inV (.str x) (ns.map V.str) = decide (x ∈ ns) := by
  unfold inV
  rw [List.any_map]
  induction ns with
  | nil => rfl
  | cons a r ih =>
    rw [List.any_cons, ih]
    show ((a == x) || _) = _
    by_cases h : a = x
    · subst h; simp
    · have h2 : (a == x) = false := by rw [beq_eq_false_iff_ne]; exact h
      have h3 : ¬ x = a := fun e => h e.symm
      rw [h2, Bool.false_or]
      simp [h3]
theorem flat_names (ns : List PySem.Str) : (ns.map V.str).all flatV = true := by
  rw [List.all_map]
  exact List.all_eq_true.mpr fun _ _ => rfl
abbrev ltrs : PySem.Str := "abcdefghijklmnoprstuvwxyz"
theorem ltrs_len : ltrs.cps.toList.length = 25 := by decide +kernel
theorem ltrs_low : ∀ c ∈ ltrs.cps.toList, Low c := by unfold Low; decide +kernel
theorem words_ok : ∀ x ∈ (["half", "mix", "pair", "box", "var", "heard"] : List PySem.Str), NameOk x := by unfold NameOk Low; decide +kernel
theorem fresh_ok : ∀ x ∈ (["qa", "qb", "qc"] : List PySem.Str), NameOk x := by unfold NameOk Low; decide +kernel
/-- the names that stand by -/
def cands : List PySem.Str := ltrs.cps.toList.map fun c => (⟨#[c]⟩ : PySem.Str) ++ "y"
theorem cands_nodup : cands.Nodup := by decide +kernel
theorem cands_ok : ∀ x ∈ cands, NameOk x := by unfold NameOk Low; decide +kernel
theorem chars_of : ∀ {acc : List V}, (∀ v ∈ acc, ∃ c, v = V.str ⟨#[c]⟩ ∧ Low c) → ∃ cs : List Nat, acc = cs.map (fun c => V.str ⟨#[c]⟩) ∧ ∀ c ∈ cs, Low c
  | [], _ => ⟨[], rfl, fun c h => by cases h⟩
  | a :: r, h => by
    obtain ⟨c, rfl, hc⟩ := h a (by simp)
    obtain ⟨cs, rfl, hcs⟩ := chars_of (acc := r) fun v hv => h v (List.mem_cons_of_mem _ hv)
    exact ⟨c :: cs, rfl, fun x hx => by
      rcases List.mem_cons.mp hx with e | e
      · exact e ▸ hc
      · exact hcs x e⟩
theorem join_one : ∀ cs : List Nat, TL.joinL [] (cs.map fun c => [c]) = cs
  | [] => rfl
  | [c] => rfl
  | c :: d :: r => by
    show [c] ++ ([] ++ TL.joinL [] ((d :: r).map fun c => [c])) = _
    rw [join_one (d :: r)]
    rfl
theorem join_chars (cs : List Nat) : Txt.join "" (cs.map fun c => (⟨#[c]⟩ : PySem.Str)) = ⟨cs.toArray⟩ := by
  have := SX.join_S [] (cs.map fun c => [c])
  rw [join_one, List.map_map] at this
  exact this
theorem chars_len (cs : List Nat) : ((cs.map fun c => (⟨#[c]⟩ : PySem.Str)).map (·.length)).sum = cs.length := by
  induction cs with
  | nil => rfl
  | cons c r ih =>
    rw [List.map_cons, List.map_cons, List.sum_cons, ih, List.length_cons]
    show 1 + _ = _
    omega
theorem char_name {cs : List Nat} (h1 : 1 ≤ cs.length) (h8 : cs.length ≤ 8) (hl : ∀ c ∈ cs, Low c) : NameOk ⟨cs.toArray⟩ := by
  have e : (⟨cs.toArray⟩ : PySem.Str).length = cs.length := by show cs.toArray.size = _; simp
  refine ⟨by omega, by omega, fun c hc => hl c (by simpa using hc)⟩
abbrev N_law_names : List PySem.Str := ["_law_bag_here", "_law_many", "_law_letters", "_law_names_here", "_law_k", "_law_size", "_law_name", "_law_at", "_law_letter"]
abbrev P_law_names : List PySem.Str := ["_law_bag_here", "_law_many"]
theorem sc_law_names : FnScope N_law_names P_law_names (defScope s_law_names) := ⟨rfl, rfl, rfl, by decide +kernel, rfl, by decide +kernel, by decide +kernel⟩
def sp_law_names : Sp := fun vs H Q _ => ∃ (b : Addr) (many : Nat), vs = [.ref b, .int many] ∧ Bag H b ∧ many ≤ 10 ∧ ∀ p H' (ns : List PySem.Str), Bg b H H' → H p = none → H' p = some (.lst (ns.map V.str)) → ns.length = many → ns.Nodup → (∀ x ∈ ns, NameOk x) → Q (.ref p) H'
theorem c_law_names (D : Dfn K mg "_law_names" s_law_names) (T : Gs K mg w) (c_law_draw : C8.Cal P w K mg base 1 "_law_draw" sp_law_draw []) : C8.Cal P w K mg base 2 "_law_names" sp_law_names [] := by
  have sc := sc_law_names
  refine mkCal D (fun _ _ _ _ _ _ us hl => match us, hl with | [_, _], _ => rfl) sc (fun vs H Q E h => by obtain ⟨b, many, rfl, _⟩ := h; rfl) fun cdv A outer s H vs Q E f hr h => ?_
  obtain ⟨b, many, rfl, hbag, hm, q⟩ := h
  refine ⟨_, (pss_cons (ps_set (i := 2) sc.nd rfl (Or.inr rfl) pe_str) (pss_cons (ps_set (i := 3) sc.nd rfl (Or.inr rfl) (pe_lst pa_nil)) (pss_cons (ps_for PassesOwn.never rfl (pi_range1 rfl T.range (pa_cons (pv 1) pa_nil)) (pg_name (i := 4) sc.nd rfl (Or.inl rfl)) (C8.pss_cut (ps_set (i := 5) sc.nd rfl (Or.inl rfl) (pe_ix ix_list (pe_lst (pa_cons pe_int (pa_cons pe_int (pa_cons pe_int (pa_cons pe_int (pa_cons pe_int pa_nil)))))) (C8.pe_c c_law_draw hr (by first | decide | omega) rfl (pa_cons (pv 0) (pa_cons pe_int pa_nil))) (fun _ _ => rfl))) (C8.pss_cut (ps_set (i := 6) sc.nd rfl (Or.inl rfl) (pe_join pe_str (pe_lc (own := [("_law_at", 7)]) (g := gName 7) (tt := tYes) rfl sc.nd (pi_range1 rfl T.range (pa_cons (pv 5) pa_nil)) (blkOk_by (N := N_law_names) (sc := defScope s_law_names) (by decide +kernel)) (fun _ _ _ _ _ => (pg_name (i := 7) sc.nd rfl (Or.inl rfl))) (fun _ _ _ _ _ => pts_nil) (fun _ _ _ _ _ => (pe_ix (show IxR _ rIxS from ix_str) (pv 2) (C8.pe_c c_law_draw hr (by first | decide | omega) rfl (pa_cons (pv 0) (pa_cons pe_int pa_nil))) (fun _ _ => rfl)))))) (C8.pss_cut (ps_if (pt_cmpR op_eq (C8.pe_c c_law_draw hr (by first | decide | omega) rfl (pa_cons (pv 0) (pa_cons pe_int pa_nil))) pe_int (nomark _)) (pss_one (ps_set (i := 6) sc.nd rfl (Or.inl rfl) (pe_ix ix_list (pe_lst (pa_cons pe_str (pa_cons pe_str (pa_cons pe_str (pa_cons pe_str (pa_cons pe_str (pa_cons pe_str pa_nil))))))) (C8.pe_c c_law_draw hr (by first | decide | omega) rfl (pa_cons (pv 0) (pa_cons pe_int pa_nil))) (fun _ _ => rfl)))) pss_nil) (C8.pss_cut (ps_if (pt_cmpR op_in_seq (pv 6) (pv 3) rfl) (pss_one (ps_set (i := 6) sc.nd rfl (Or.inl rfl) (pe_ix ix_list (pe_lc (own := [("_law_letter", 8)]) (g := gName 8) rfl sc.nd (pi_str (pv 2)) (blkOk_by (N := N_law_names) (sc := defScope s_law_names) (by decide +kernel)) (fun _ _ _ _ _ => (pg_name (i := 8) sc.nd rfl (Or.inl rfl))) (fun _ _ _ _ _ => pts_one (pt_cmpR (show OpR _ _ (rIn K true) from op_notIn_seq) (pe_op op_add_str (pv 8) pe_str) (pv 3) rfl)) (fun _ _ _ _ _ => (pe_op op_add_str (pv 8) pe_str))) pe_int (fun _ _ => rfl)))) pss_nil) (pss_one (ps_expr (pe_bm PySem.F.plainAttrs_list PySem.F.slot_list_append PySem.F.type_list_append mt_append (pv 3) (pa_cons (pv 6) pa_nil))))))))) (pss_one (ps_ret (pv 3)))))), ?_⟩
  refine ⟨by show 0 ≤ sizeLine; decide, fun L hL => ?_⟩
  have hbL : b ≠ L := fun z => hbag.some (z ▸ hL)
  refine ⟨_, rfl, _, rfl, by omega, by omega, for_it walk_range (fun i σ' H' => ∃ (x4 x5 x6 : Option V) (ns : List PySem.Str), σ' = [some (.ref b), some (.int many), some (.str ltrs), some (.ref L), x4, x5, x6, none, none] ∧ Bg b H H' ∧ H' L = some (.lst (ns.map V.str)) ∧ ns.length = i ∧ ns.Nodup ∧ ∀ x ∈ ns, NameOk x)
    ⟨none, none, none, [], rfl, (Bg.refl hbag).up hbag hL, upd_same, rfl, List.nodup_nil, fun x hx => (by cases hx)⟩ (fun _ _ _ _ _ => trivial) (fun i y σ' H1 H2 hi pp yy => ?_) (fun σ' H1 pp => ?_)⟩
  · obtain ⟨x4, x5, x6, ns, rfl, k1, hL1, hnl, hnd, hok⟩ := pp
    obtain ⟨rfl, rfl⟩ := yy
    have hi : i < many := by simpa using hi
    -- the size
    refine ⟨fun σ' H' => ∃ sz : Nat, σ' = [some (.ref b), some (.int many), some (.str ltrs), some (.ref L), some (.int (0 + (i : Nat))), some (.int (sz : Nat)), x6, none, none] ∧ Bg b H H' ∧ H' L = some (.lst (ns.map V.str)) ∧ 1 ≤ sz ∧ sz ≤ 8, ?_, fun σ' H3 m3 => ?_⟩
    · refine ⟨by show 5 ≤ sizeLine; decide, fun p1 hp1 => ⟨_, rfl, b, 5, rfl, k1.bag.same (sUp hp1), by decide, by decide, fun d H3 hd k3 => ?_⟩⟩
      have hp1b : p1 ≠ b := fun z => k1.bag.some (z ▸ hp1)
      have hL3 : H3 L = some (.lst (ns.map V.str)) := k3.at (sUp hp1 _ _ hL1) (Ne.symm hbL)
      have k13 := (k1.same (sUp (o := .lst [.int 1, .int 1, .int 2, .int 3, .int 8]) hp1)).trans k3
      have hat : ∃ sz : Nat, ([.int 1, .int 1, .int 2, .int 3, .int 8] : List V)[d]? = some (.int (sz : Nat)) ∧ 1 ≤ sz ∧ sz ≤ 8 := by
        match d, hd with
        | 0, _ => exact ⟨1, rfl, by decide, by decide⟩
        | 1, _ => exact ⟨1, rfl, by decide, by decide⟩
        | 2, _ => exact ⟨2, rfl, by decide, by decide⟩
        | 3, _ => exact ⟨3, rfl, by decide, by decide⟩
        | 4, _ => exact ⟨8, rfl, by decide, by decide⟩
      obtain ⟨sz, hsz, h1, h8⟩ := hat
      exact ⟨p1, _, _, _, rfl, rfl, SqL.of (k3.at upd_same hp1b), atI_nat hsz, sz, rfl, k13, hL3, h1, h8⟩
    obtain ⟨sz, rfl, k3, hL3, hs1, hs8⟩ := m3
    -- letters
    refine ⟨fun σ' H' => ∃ x : PySem.Str, σ' = [some (.ref b), some (.int many), some (.str ltrs), some (.ref L), some (.int (0 + (i : Nat))), some (.int (sz : Nat)), some (.str x), none, none] ∧ Bg b H H' ∧ H' L = some (.lst (ns.map V.str)) ∧ NameOk x, ?_, fun σ' H4 m4 => ?_⟩
    · refine ⟨⟨_, rfl⟩, _, rfl, _, rfl, by omega, by omega, fun D hD => ?_⟩
      have hbD : b ≠ D := fun z => k3.bag.some (z ▸ hD)
      refine lc_mapX walk_range (fun a => a = b) (fun H' => Bg b H3 H') (fun _ _ v => ∃ c, v = .str ⟨#[c]⟩ ∧ Low c) (lt_line (by simp; omega)) hD (fun a e => by subst e; exact ⟨k3.bag.some, fun H' k => k.bag.notup⟩) (fun H' o k => k.up k3.bag hD) (Bg.refl k3.bag) (fun _ _ _ _ _ e => e) (fun _ _ _ => trivial) (fun j y H5 H6 N hj sx k5 yy n' => ?_) (fun H5 acc sx k5 hacc hl hr' => ?_)
      · obtain ⟨rfl, rfl⟩ := yy
        refine ⟨rfl, _, rfl, _, rfl, b, 25, rfl, k5.bag, by decide, by decide, fun d H7 hd k7 => ?_⟩
        obtain ⟨c, hc⟩ : ∃ c, ltrs.cps.toList[d]? = some c := ⟨_, List.getElem?_eq_getElem (by rw [ltrs_len]; exact hd)⟩
        exact ⟨_, _, c, rfl, rfl, by show ltrs.length ≤ sizeLine; decide, atI_nat hc, n' _ _ k7.s (k5.trans k7) ⟨c, rfl, ltrs_low c (List.mem_of_getElem? hc)⟩⟩
      · obtain ⟨cs, rfl, hcs⟩ := chars_of (acc := acc) fun v hv => by
          obtain ⟨j, hj⟩ := List.getElem?_of_mem hv
          exact hr' j v hj
        have hcl : cs.length = sz := by simpa using hl
        have hys : (cs.map fun c => V.str ⟨#[c]⟩) = (cs.map fun c => (⟨#[c]⟩ : PySem.Str)).map V.str := by rw [List.map_map]; rfl
        refine ⟨_, D, cs.map fun c => (⟨#[c]⟩ : PySem.Str), rfl, rfl, .inl (SqL.of (hacc.trans (congrArg (fun z => some (HO.lst z)) hys))), by rw [chars_len]; show cs.length + (cs.map _).length * 0 ≤ 16777216; omega, _, rfl, k3.trans k5, k5.at hL3 (Ne.symm hbL), ?_⟩
        have := char_name (cs := cs) (by omega) (by omega) hcs
        rw [← join_chars] at this
        exact this
    obtain ⟨x, rfl, k4, hL4, hxok⟩ := m4
    -- or a word
    refine ⟨fun σ' H' => ∃ x : PySem.Str, σ' = [some (.ref b), some (.int many), some (.str ltrs), some (.ref L), some (.int (0 + (i : Nat))), some (.int (sz : Nat)), some (.str x), none, none] ∧ Bg b H H' ∧ H' L = some (.lst (ns.map V.str)) ∧ NameOk x, ?_, fun σ' H5 m5 => ?_⟩
    · refine ⟨_, rfl, b, 12, rfl, k4.bag, by decide, by decide, fun d H5 hd k5 => ⟨rfl, _, rfl, ite2 (fun _ => ?_) fun _ => ⟨x, rfl, k4.trans k5, k5.at hL4 (Ne.symm hbL), hxok⟩⟩⟩
      refine ⟨by show 6 ≤ sizeLine; decide, fun p1 hp1 => ⟨_, rfl, b, 6, rfl, k5.bag.same (sUp hp1), by decide, by decide, fun e H6 he k6 => ?_⟩⟩
      have hp1b : p1 ≠ b := fun z => k5.bag.some (z ▸ hp1)
      obtain ⟨x', hx'⟩ : ∃ x', (["half", "mix", "pair", "box", "var", "heard"] : List PySem.Str)[e]? = some x' := ⟨_, List.getElem?_eq_getElem he⟩
      have hx2 : ([V.str "half", .str "mix", .str "pair", .str "box", .str "var", .str "heard"] : List V)[e]? = some (.str x') := by
        have : ([V.str "half", .str "mix", .str "pair", .str "box", .str "var", .str "heard"] : List V) = (["half", "mix", "pair", "box", "var", "heard"] : List PySem.Str).map V.str := rfl
        rw [this, List.getElem?_map, hx']; rfl
      exact ⟨p1, _, _, _, rfl, rfl, SqL.of (k6.at upd_same hp1b), atI_nat hx2, x', rfl, (k4.trans k5).trans ((Same.bg (sUp hp1) k5.bag).trans k6), k6.at (sUp hp1 _ _ (k5.at hL4 (Ne.symm hbL))) (Ne.symm hbL), words_ok x' (List.mem_of_getElem? hx')⟩
    obtain ⟨x, rfl, k5, hL5, hxok⟩ := m5
    -- not one of the earlier
    refine ⟨fun σ' H' => ∃ x : PySem.Str, σ' = [some (.ref b), some (.int many), some (.str ltrs), some (.ref L), some (.int (0 + (i : Nat))), some (.int (sz : Nat)), some (.str x), none, none] ∧ Bg b H H' ∧ H' L = some (.lst (ns.map V.str)) ∧ NameOk x ∧ x ∉ ns, ?_, fun σ' H6 m6 => ?_⟩
    · refine ⟨_, rfl, _, rfl, L, _, rfl, .inl (SqL.of hL5), rfl, flat_names ns, _, rfl, ?_⟩
      rw [show (if false = true then !inV (.str x) (ns.map V.str) else inV (.str x) (ns.map V.str)) = decide (x ∈ ns) from inV_names]
      refine ite2 (fun _ => ?_) fun hn => ⟨x, rfl, k5, hL5, hxok, fun h => hn (decide_eq_true h)⟩
      refine ⟨_, rfl, _, rfl, fun D hD => ?_⟩
      have hLD : L ≠ D := fun z => by subst z; rw [hL5] at hD; cases hD
      refine lc_it walk_str (fun j H' => SamX (fun b => b = D) H5 H' ∧ H' D = some (.lst (((cands.take j).filter fun x => decide (x ∉ ns)).map V.str))) ⟨(SamX.refl _ _).up hD, upd_same⟩ (fun _ _ _ _ => trivial) (fun j y H7 H8 hj pp yy => ?_) (fun H7 pp => ?_)
      · obtain ⟨k7, hD7⟩ := pp
        obtain ⟨rfl, c, hc, rfl⟩ := yy
        have hL8 := k7 _ _ hLD hL5
        have hcand : cands[j]? = some ((⟨#[c]⟩ : PySem.Str) ++ "y") := by
          unfold cands
          rw [List.getElem?_map, Array.getElem?_toList, hc]; rfl
        have hle : (⟨#[c]⟩ : PySem.Str).length + (Str.ofString "y").length ≤ sizeLine := by
          have : (⟨#[c]⟩ : PySem.Str).length + (Str.ofString "y").length = 2 := rfl
          rw [this]; decide
        have hlen : (((cands.take j).filter fun x => decide (x ∉ ns)).map V.str).length < sizeLine := by
          refine lt_line ?_
          rw [List.length_map]
          refine Nat.le_trans (List.length_filter_le _ _) ?_
          rw [List.length_take]
          have : cands.length = 25 := by decide +kernel
          omega
        refine ⟨rfl, _, rfl, _, _, rfl, rfl, hle, _, rfl, L, _, rfl, .inl (SqL.of hL8), rfl, flat_names ns, _, rfl, ?_⟩
        rw [show (if true = true then !inV (.str ((⟨#[c]⟩ : PySem.Str) ++ Str.ofString "y")) (ns.map V.str) else inV (.str ((⟨#[c]⟩ : PySem.Str) ++ Str.ofString "y")) (ns.map V.str)) = !decide ((⟨#[c]⟩ : PySem.Str) ++ "y" ∈ ns) from congrArg (fun z => !z) inV_names]
        rw [List.take_succ, hcand]
        by_cases hin : (⟨#[c]⟩ : PySem.Str) ++ "y" ∈ ns
        · rw [decide_eq_true hin]
          refine iteF ⟨k7, ?_⟩
          rw [List.filter_append]
          have : ([((⟨#[c]⟩ : PySem.Str) ++ "y")].filter fun x => decide (x ∉ ns)) = [] := by simp [hin]
          rw [show (some ((⟨#[c]⟩ : PySem.Str) ++ "y")).toList = [((⟨#[c]⟩ : PySem.Str) ++ "y")] from rfl, this, List.append_nil]
          exact hD7
        · rw [decide_eq_false hin]
          refine iteT ⟨_, rfl, _, _, rfl, rfl, hle, _, hD7, hlen, fun b o n e => (upd_ne n).trans (k7 _ _ n e), ?_⟩
          rw [List.filter_append]
          have : ([((⟨#[c]⟩ : PySem.Str) ++ "y")].filter fun x => decide (x ∉ ns)) = [((⟨#[c]⟩ : PySem.Str) ++ "y")] := by simp [hin]
          rw [show (some ((⟨#[c]⟩ : PySem.Str) ++ "y")).toList = [((⟨#[c]⟩ : PySem.Str) ++ "y")] from rfl, this, List.map_append, upd_same]
          rfl
      · obtain ⟨k7, hD7⟩ := pp
        have s7 := same_new k7 hD
        have hfull : cands.take ltrs.cps.size = cands := List.take_of_length_le (by decide +kernel)
        rw [hfull] at hD7
        cases hf : cands.filter fun x => decide (x ∉ ns) with
        | nil =>
          exfalso
          have hall : ∀ z ∈ cands, z ∈ ns := fun z hz => by
            have := (List.filter_eq_nil_iff.mp hf) z hz
            simpa using this
          have h1 := nodup_len cands_nodup hall
          have h2 : cands.length = 25 := by decide +kernel
          omega
        | cons z r =>
          rw [hf] at hD7
          have hz : z ∈ cands.filter fun x => decide (x ∉ ns) := by rw [hf]; simp
          rw [List.mem_filter] at hz
          exact ⟨D, _, _, _, rfl, rfl, SqL.of hD7, at0, z, rfl, k5.same s7, s7 _ _ hL5, cands_ok z hz.1, by simpa using hz.2⟩
    obtain ⟨x, rfl, k6, hL6, hxok, hxn⟩ := m6
    refine ⟨_, rfl, .inl ⟨rfl, _, SqL.of hL6⟩, _, rfl, L, _, _, rfl, rfl, hL6, lt_line (by simp; omega), _, _, _, ns ++ [x], rfl, k6.up hbag hL, by rw [upd_same, List.map_append]; rfl, by simp [hnl], nd_snoc hnd hxn, fun z hz => ?_⟩
    rcases List.mem_append.mp hz with hz | hz
    · exact hok z hz
    · rw [List.mem_singleton] at hz; exact hz ▸ hxok
  · obtain ⟨x4, x5, x6, ns, rfl, k1, hL1, hnl, hnd, hok⟩ := pp
    exact ⟨_, rfl, q L _ ns k1 hL hL1 (by simpa using hnl) hnd hok⟩
/-! ### hearings drawn -/
/-- the inner nodes -/
def inn : Tm → List Tm
  | .nm _ => []
  | .un g a => .un g a :: inn a
  | .bi g a b => .bi g a b :: (inn a ++ inn b)
theorem inn_len : ∀ (n : Nat) (t : Tm), t.depth ≤ n + 1 → (inn t).length + 1 ≤ 2 ^ n
  | n, .nm _, _ => Nat.one_le_two_pow
  | 0, .un _ a, h => by have := depth_pos a; have h : a.depth + 1 ≤ 1 := h; omega
  | 0, .bi _ a b, h => by have := depth_pos a; have h : max a.depth b.depth + 1 ≤ 1 := h; omega
  | n + 1, .un g a, h => by
    have h : a.depth + 1 ≤ n + 1 + 1 := h
    have := inn_len n a (by omega)
    have p1 := Nat.one_le_two_pow (n := n)
    have p2 := Nat.pow_succ 2 n
    show (inn a).length + 1 + 1 ≤ _
    omega
  | n + 1, .bi g a b, h => by
    have h : max a.depth b.depth + 1 ≤ n + 1 + 1 := h
    have h1 := inn_len n a (by omega)
    have h2 := inn_len n b (by omega)
    have p2 := Nat.pow_succ 2 n
    show (inn a ++ inn b).length + 1 + 1 ≤ _
    rw [List.length_append]
    omega
theorem inn_self {N : PySem.Str → Prop} {t : Tm} (hw : WF N t) : t ∈ inn t ∨ ∃ x, t = .nm x ∧ N x := by
  cases t with
  | nm x => exact .inr ⟨x, rfl, hw⟩
  | un _ _ => exact .inl (List.mem_cons_self ..)
  | bi _ _ _ => exact .inl (List.mem_cons_self ..)
theorem inn_kids {N : PySem.Str → Prop} : ∀ {t : Tm}, WF N t → ∀ k ∈ inn t, WF N k ∧ k.depth ≤ t.depth ∧ ∀ c ∈ k.kids, c ∈ inn t ∨ ∃ x, c = .nm x ∧ N x := by
  intro t
  induction t with
  | nm x => intro _ k hk; cases hk
  | un g a ih =>
    intro hw k hk
    have wa : WF N a := WF.kid hw (by simp [Tm.kids])
    rcases List.mem_cons.mp hk with e | e
    · subst e
      refine ⟨hw, Nat.le_refl _, fun c hc => ?_⟩
      have e : c = a := by simpa [Tm.kids] using hc
      subst e
      exact (inn_self wa).imp (fun h => List.mem_cons_of_mem _ h) id
    · obtain ⟨h1, h2, h3⟩ := ih wa k e
      exact ⟨h1, Nat.le_trans h2 (Nat.le_succ _), fun c hc => (h3 c hc).imp (fun h => List.mem_cons_of_mem _ h) id⟩
  | bi g a b iha ihb =>
    intro hw k hk
    have wa : WF N a := WF.kid hw (by simp [Tm.kids])
    have wb : WF N b := WF.kid hw (by simp [Tm.kids])
    rcases List.mem_cons.mp hk with e | e
    · subst e
      refine ⟨hw, Nat.le_refl _, fun c hc => ?_⟩
      have e : c = a ∨ c = b := by simpa [Tm.kids] using hc
      rcases e with e | e <;> subst e
      · exact (inn_self wa).imp (fun h => List.mem_cons_of_mem _ (List.mem_append_left _ h)) id
      · exact (inn_self wb).imp (fun h => List.mem_cons_of_mem _ (List.mem_append_right _ h)) id
    · rcases List.mem_append.mp e with e | e
      · obtain ⟨h1, h2, h3⟩ := iha wa k e
        exact ⟨h1, by show k.depth ≤ max a.depth b.depth + 1; omega, fun c hc => (h3 c hc).imp (fun h => List.mem_cons_of_mem _ (List.mem_append_left _ h)) id⟩
      · obtain ⟨h1, h2, h3⟩ := ihb wb k e
        exact ⟨h1, by show k.depth ≤ max a.depth b.depth + 1; omega, fun c hc => (h3 c hc).imp (fun h => List.mem_cons_of_mem _ (List.mem_append_right _ h)) id⟩
/-- a set of terms over the names, closed by kids, of at most n terms -/
structure UN (ns : List PySem.Str) (U : List Tm) (n : Nat) : Prop where
  kids : KidsIn U
  len : U.length ≤ n
  wf : ∀ t ∈ U, WF (fun x => x ∈ ns) t ∧ t.depth ≤ 4
  nms : ∀ x ∈ ns, Tm.nm x ∈ U
theorem un0 (ns : List PySem.Str) : UN ns (ns.map Tm.nm) ns.length := ⟨fun t ht k hk => (by
  obtain ⟨x, _, rfl⟩ := List.mem_map.mp ht
  cases hk), (by simp), fun t ht => (by
  obtain ⟨x, hx, rfl⟩ := List.mem_map.mp ht
  exact ⟨hx, by show 1 ≤ 4; decide⟩), fun x hx => List.mem_map.mpr ⟨x, hx, rfl⟩⟩
theorem UN.add {ns : List PySem.Str} {U : List Tm} {n : Nat} (h : UN ns U n) {t : Tm} (hw : WF (fun x => x ∈ ns) t) (hd : t.depth ≤ 4) : UN ns (U ++ inn t) (n + 7) ∧ t ∈ U ++ inn t := by
  refine ⟨⟨fun k hk c hc => ?_, ?_, fun k hk => ?_, fun x hx => List.mem_append_left _ (h.nms x hx)⟩, ?_⟩
  · rcases List.mem_append.mp hk with hk | hk
    · exact List.mem_append_left _ (h.kids k hk c hc)
    · rcases (inn_kids hw k hk).2.2 c hc with h1 | ⟨x, rfl, hx⟩
      · exact List.mem_append_right _ h1
      · exact List.mem_append_left _ (h.nms x hx)
  · have := inn_len 3 t hd
    have := h.len
    rw [List.length_append]; omega
  · rcases List.mem_append.mp hk with hk | hk
    · exact h.wf k hk
    · have := inn_kids hw k hk
      exact ⟨this.1, by omega⟩
  · rcases inn_self hw with h1 | ⟨x, rfl, hx⟩
    · exact List.mem_append_right _ h1
    · exact List.mem_append_left _ (h.nms x hx)
theorem UN.mono {ns : List PySem.Str} {U : List Tm} {n m : Nat} (h : UN ns U n) (k : n ≤ m) : UN ns U m := ⟨h.kids, Nat.le_trans h.len k, h.wf, h.nms⟩
abbrev N_law_hearing : List PySem.Str := ["_law_bag_here", "_law_names_here", "_law_many", "_law_row", "_law_k", "_law_kind", "_law_term_here"]
abbrev P_law_hearing : List PySem.Str := ["_law_bag_here", "_law_names_here", "_law_many"]
theorem sc_law_hearing : FnScope N_law_hearing P_law_hearing (defScope s_law_hearing) := ⟨rfl, rfl, rfl, by decide +kernel, rfl, by decide +kernel, by decide +kernel⟩
def sp_law_hearing : Sp := fun vs H Q _ => ∃ (b a : Addr) (ns : List PySem.Str) (many : Nat), vs = [.ref b, .ref a, .int many] ∧ Bag H b ∧ Nms H a ns ∧ a ≠ b ∧ many ≤ 6 ∧ ∀ p H' F us U, Bg b H H' → H p = none → H' p = some (.lst us) → TmVs H' F us → F.length = many → UN ns U (ns.length + 7 * many) → (∀ t ∈ F, t ∈ U) → Q (.ref p) H'
theorem c_law_hearing (D : Dfn K mg "_law_hearing" s_law_hearing) (T : Gs K mg w) (c_law_draw : C8.Cal P w K mg base 1 "_law_draw" sp_law_draw []) (c_law_pick : C8.Cal P w K mg base 2 "_law_pick" sp_law_pick []) (c_law_term : C8.Cal P w K mg base 9 "_law_term" sp_law_term []) (c_law_parts : C8.Cal P w K mg base 5 "_law_parts" (sp_law_parts 4) []) : C8.Cal P w K mg base 10 "_law_hearing" sp_law_hearing [] := by
  have sc := sc_law_hearing
  refine mkCal D (fun _ _ _ _ _ _ us hl => match us, hl with | [_, _, _], _ => rfl) sc (fun vs H Q E h => by obtain ⟨b, a, ns, many, rfl, _⟩ := h; rfl) fun cdv A outer s H vs Q E f hr h => ?_
  obtain ⟨b, a, ns, many, rfl, hbag, hns, hab, hm, q⟩ := h
  refine ⟨_, (pss_cons (ps_set (i := 3) sc.nd rfl (Or.inl rfl) (pe_lst pa_nil)) (pss_cons (ps_for PassesOwn.never rfl (pi_range1 rfl T.range (pa_cons (pv 2) pa_nil)) (pg_name (i := 4) sc.nd rfl (Or.inl rfl)) (pss_cons (ps_set (i := 5) sc.nd rfl (Or.inl rfl) (C8.pe_c c_law_draw hr (by first | decide | omega) rfl (pa_cons (pv 0) (pa_cons pe_int pa_nil)))) (pss_cons (ps_set (i := 6) sc.nd rfl (Or.inl rfl) (C8.pe_c c_law_term hr (by first | decide | omega) rfl (pa_cons (pv 0) (pa_cons (pv 1) (pa_cons pe_int pa_nil))))) (pss_cons (ps_if (pt_cmpR op_eq (pv 5) pe_int (nomark _)) (pss_one (ps_set (i := 6) sc.nd rfl (Or.inl rfl) (C8.pe_c c_law_pick hr (by first | decide | omega) rfl (pa_cons (pv 0) (pa_cons (pv 1) pa_nil))))) pss_nil) (pss_cons (ps_if (PW.pt (pw_and (pt_cmpR op_eq (pv 5) pe_int (nomark _)) (pw_and1 (pt_cmpR op_gt (pe_callB call_len_seq rfl T.len (by decide +kernel) (pa_cons (pv 3) pa_nil)) pe_int (nomark _))))) (pss_one (ps_set (i := 6) sc.nd rfl (Or.inl rfl) (C8.pe_c c_law_pick hr (by first | decide | omega) rfl (pa_cons (pv 0) (pa_cons (C8.pe_c c_law_parts hr (by first | decide | omega) rfl (pa_cons (C8.pe_c c_law_pick hr (by first | decide | omega) rfl (pa_cons (pv 0) (pa_cons (pv 3) pa_nil))) pa_nil)) pa_nil))))) pss_nil) (pss_one (ps_expr (pe_bm PySem.F.plainAttrs_list PySem.F.slot_list_append PySem.F.type_list_append mt_append (pv 3) (pa_cons (pv 6) pa_nil))))))))) (pss_one (ps_ret (pv 3))))), ?_⟩
  refine ⟨by show 0 ≤ sizeLine; decide, fun R hR => ?_⟩
  have hbR : R ≠ b := fun z => hbag.some (z ▸ hR)
  have haR : a ≠ R := fun z => by
    have := hns.1
    rw [z, hR] at this
    cases this
  refine ⟨_, rfl, _, rfl, by omega, by omega, for_it walk_range (fun i σ' H' => ∃ (x4 x5 x6 : Option V) (F : List Tm) (us : List V) (U : List Tm), σ' = [some (.ref b), some (.ref a), some (.int many), some (.ref R), x4, x5, x6] ∧ Bg b H H' ∧ H' R = some (.lst us) ∧ TmVs H' F us ∧ F.length = i ∧ UN ns U (ns.length + 7 * i) ∧ (∀ t ∈ F, t ∈ U))
    ⟨none, none, none, [], [], _, rfl, (Bg.refl hbag).up hbag hR, upd_same, .nil, rfl, un0 ns, fun x hx => (by cases hx)⟩ (fun _ _ _ _ _ => trivial) (fun i y σ' H1 H2 hi pp yy => ?_) (fun σ' H1 pp => ?_)⟩
  · obtain ⟨x4, x5, x6, F, us, U, rfl, k1, hR1, hF, hFl, hU, hFU⟩ := pp
    obtain ⟨rfl, rfl⟩ := yy
    have hi : i < many := by simpa using hi
    have hul : us.length = F.length := (Paired.length hF).symm
    refine ⟨_, rfl, b, 6, rfl, k1.bag, by decide, by decide, fun kind H3 hkind k3 => ?_⟩
    have k13 := k1.trans k3
    refine ⟨_, rfl, _, rfl, b, a, ns, 4, rfl, k3.bag, hns.bg k13 hab, hab, by decide, by decide, fun v t H4 k4 htv hwt hdt => ?_⟩
    have k14 := k13.trans k4
    obtain ⟨hU4, htU4⟩ := hU.add hwt hdt
    have hR4 := k4.at (k3.at hR1 hbR) hbR
    have hF4 : TmVs H4 F us := TmVs.mono ((k3.tups k1.bag).trans (k4.tups k3.bag)) hF
    have hFU4 : ∀ t ∈ F, t ∈ U ++ inn t := fun t ht => List.mem_append_left _ (hFU t ht)
    have hg4 : ∀ x ∈ ns, NameOk x := hns.2.2.2
    -- the end of a turn
    have fin : ∀ (x5' x6' : V) (v : V) (t0 : Tm) H5, Bg b H H5 → Bg b H4 H5 → TmV H5 t0 v → t0 ∈ U ++ inn t → (∃ l xs y, V.ref R = .ref l ∧ [v] = [y] ∧ H5 l = some (.lst xs) ∧ xs.length < sizeLine ∧ ∃ (x4 x5 x6 : Option V) (F' : List Tm) (us' : List V) (U' : List Tm), [some (V.ref b), some (.ref a), some (.int many), some (.ref R), some (.int (0 + (i : Nat))), some x5', some x6'] = [some (V.ref b), some (.ref a), some (.int many), some (.ref R), x4, x5, x6] ∧ Bg b H (upd H5 l (.lst (xs ++ [y]))) ∧ upd H5 l (.lst (xs ++ [y])) R = some (.lst us') ∧ TmVs (upd H5 l (.lst (xs ++ [y]))) F' us' ∧ F'.length = i + 1 ∧ UN ns U' (ns.length + 7 * (i + 1)) ∧ (∀ t ∈ F', t ∈ U')) := fun x5' x6' v t0 H5 k05 k45 hv ht0 => by
      have hR5 := k45.at hR4 hbR
      have tu : Tups H5 (upd H5 R (.lst (us ++ [v]))) := tups_up (fun xs e => by rw [hR5] at e; cases e)
      refine ⟨R, us, v, rfl, rfl, hR5, lt_line (by omega), _, _, _, F ++ [t0], us ++ [v], U ++ inn t, rfl, k05.up hbag hR, upd_same, paired_app (TmVs.mono ((k45.tups k4.bag).trans tu) hF4) (.cons (hv.mono tu) .nil), by simp [hFl], hU4.mono (by omega), fun x hx => ?_⟩
      rcases List.mem_append.mp hx with hx | hx
      · exact List.mem_append_left _ (hFU x hx)
      · rw [List.mem_singleton] at hx; exact hx ▸ ht0
    refine ⟨_, rfl, rfl, _, rfl, ite2 (fun _ => ?_) fun _ => ?_⟩
    · -- a name
      have hn4 := hns.bg k14 hab
      refine ⟨_, rfl, _, rfl, b, a, _, rfl, k4.bag, hn4.1, hab, by simpa using hns.2.1, by simp; have := hns.2.2.1; omega, fun v5 H5 hv5 k5 => ?_⟩
      obtain ⟨x, hx, rfl⟩ := List.mem_map.mp hv5
      refine ⟨_, rfl, rfl, _, rfl, ite2 (fun _ => ?_) fun _ => ?_⟩
      · refine ⟨_, rfl, R, us, rfl, .inl (SqL.of (k5.at hR4 hbR)), _, _, rfl, rfl, _, rfl, ite2 (fun hpos => ?_) fun _ => ⟨_, rfl, .inl ⟨rfl, _, SqL.of (k5.at hR4 hbR)⟩, _, rfl, fin _ _ _ (.nm x) H5 (k14.trans k5) k5 rfl (List.mem_append_left _ (hU.nms x hx))⟩⟩
        have hpos : (0 : Int) < us.length := of_decide_eq_true hpos
        refine ⟨_, rfl, _, rfl, _, rfl, b, R, us, rfl, k5.bag, k5.at hR4 hbR, hbR, by omega, by omega, fun v6 H6 hv6 k6 => ?_⟩
        obtain ⟨j, hj⟩ := List.getElem?_of_mem hv6
        obtain ⟨u, hu, huv⟩ := paired_at' (TmVs.mono ((k5.tups k4.bag).trans (k6.tups k5.bag)) hF4) hj
        have huU := List.mem_append_left (inn t) (hFU u (List.mem_of_getElem? hu))
        have hug := hU4.wf u huU
        refine ⟨v6, u, rfl, huv, WF.up hg4 hug.1, hug.2, by omega, fun p7 H7 G ws k7 hn7 hp7 hG hG0 hGl hGg hGU => ?_⟩
        have hwl : ws.length = G.length := (Paired.length hG).symm
        have hp7b : p7 ≠ b := fun z => k6.bag.some (z ▸ hn7)
        refine ⟨b, p7, ws, rfl, k6.bag.same k7, hp7, hp7b, by omega, by have : (2 : Nat) ^ 4 = 16 := rfl; omega, fun v8 H8 hv8 k8 => ?_⟩
        obtain ⟨j2, hj2⟩ := List.getElem?_of_mem hv8
        obtain ⟨u8, hu8, huv8⟩ := paired_at' (TmVs.mono (k8.tups (k6.bag.same k7)) hG) hj2
        have k48 : Bg b H4 H8 := (k5.trans (k6.same k7)).trans k8
        exact ⟨_, rfl, .inl ⟨rfl, _, SqL.of (k48.at hR4 hbR)⟩, _, rfl, fin _ _ _ u8 H8 (k14.trans k48) k48 huv8 (hGU _ hU4.kids huU u8 (List.mem_of_getElem? hu8))⟩
      · exact iteF ⟨_, rfl, .inl ⟨rfl, _, SqL.of (k5.at hR4 hbR)⟩, _, rfl, fin _ _ _ (.nm x) H5 (k14.trans k5) k5 rfl (List.mem_append_left _ (hU.nms x hx))⟩
    · refine ⟨_, rfl, rfl, _, rfl, ite2 (fun _ => ?_) fun _ => ?_⟩
      · refine ⟨_, rfl, R, us, rfl, .inl (SqL.of hR4), _, _, rfl, rfl, _, rfl, ite2 (fun hpos => ?_) fun _ => ⟨_, rfl, .inl ⟨rfl, _, SqL.of hR4⟩, _, rfl, fin _ _ _ t H4 k14 (Bg.refl k4.bag) htv htU4⟩⟩
        have hpos : (0 : Int) < us.length := of_decide_eq_true hpos
        refine ⟨_, rfl, _, rfl, _, rfl, b, R, us, rfl, k4.bag, hR4, hbR, by omega, by omega, fun v6 H6 hv6 k6 => ?_⟩
        obtain ⟨j, hj⟩ := List.getElem?_of_mem hv6
        obtain ⟨u, hu, huv⟩ := paired_at' (TmVs.mono (k6.tups k4.bag) hF4) hj
        have huU := List.mem_append_left (inn t) (hFU u (List.mem_of_getElem? hu))
        have hug := hU4.wf u huU
        refine ⟨v6, u, rfl, huv, WF.up hg4 hug.1, hug.2, by omega, fun p7 H7 G ws k7 hn7 hp7 hG hG0 hGl hGg hGU => ?_⟩
        have hwl : ws.length = G.length := (Paired.length hG).symm
        have hp7b : p7 ≠ b := fun z => k6.bag.some (z ▸ hn7)
        refine ⟨b, p7, ws, rfl, k6.bag.same k7, hp7, hp7b, by omega, by have : (2 : Nat) ^ 4 = 16 := rfl; omega, fun v8 H8 hv8 k8 => ?_⟩
        obtain ⟨j2, hj2⟩ := List.getElem?_of_mem hv8
        obtain ⟨u8, hu8, huv8⟩ := paired_at' (TmVs.mono (k8.tups (k6.bag.same k7)) hG) hj2
        have k48 : Bg b H4 H8 := (k6.same k7).trans k8
        exact ⟨_, rfl, .inl ⟨rfl, _, SqL.of (k48.at hR4 hbR)⟩, _, rfl, fin _ _ _ u8 H8 (k14.trans k48) k48 huv8 (hGU _ hU4.kids huU u8 (List.mem_of_getElem? hu8))⟩
      · exact iteF ⟨_, rfl, .inl ⟨rfl, _, SqL.of hR4⟩, _, rfl, fin _ _ _ t H4 k14 (Bg.refl k4.bag) htv htU4⟩
  · obtain ⟨x4, x5, x6, F, us, U, rfl, k1, hR1, hF, hFl, hU, hFU⟩ := pp
    have hFl : F.length = many := by simpa using hFl
    exact ⟨_, rfl, q R _ F us U k1 hR hR1 hF hFl (by simpa using hU) hFU⟩
end
end Kt
/-! The walks: checks. -/
namespace Kt
open PySem PySem.Spec PyProof.Rows L2
open Tm
section
variable {P : Program} {w : World} {K : PySem.W.Frag} {mg : PySem.Str → Option Value} {base : Heap}
/-! ### the law: plain parts -/
theorem perm_of {α : Type} [DecidableEq α] : ∀ {l m : List α}, l.Nodup → m.Nodup → (∀ x, x ∈ l ↔ x ∈ m) → l.Perm m
  | [], m, _, _, h => by
    cases m with
    | nil => exact .nil
    | cons a r => exact absurd ((h a).mpr (by simp)) (by simp)
  | a :: l, m, hl, hm, h => by
    rw [List.nodup_cons] at hl
    have ham : a ∈ m := (h a).mp (by simp)
    refine List.Perm.trans ?_ (List.perm_cons_erase ham).symm
    refine List.Perm.cons a (perm_of hl.2 (hm.erase a) fun x => ?_)
    rw [hm.mem_erase_iff]
    constructor
    · intro hx
      exact ⟨fun e => hl.1 (e ▸ hx), (h x).mp (by simp [hx])⟩
    · rintro ⟨h1, h2⟩
      rcases List.mem_cons.mp ((h x).mpr h2) with e | e
      · exact (h1 e).elim
      · exact e
/-- the renaming -/
def ren (x0 x1 x2 g0 g1 g2 : PySem.Str) (x : PySem.Str) : PySem.Str := if x = x0 then g0 else if x = x1 then g1 else if x = x2 then g2 else x
/-- three names, and three they become -/
structure R3 (x0 x1 x2 g0 g1 g2 : PySem.Str) : Prop where
  nx : [x0, x1, x2].Nodup
  ng : [g0, g1, g2].Nodup
  okx : ∀ x ∈ [x0, x1, x2], NameOk x
  okg : ∀ x ∈ [g0, g1, g2], NameOk x
section
variable {x0 x1 x2 g0 g1 g2 : PySem.Str}
theorem R3.x (h : R3 x0 x1 x2 g0 g1 g2) : x0 ≠ x1 ∧ x0 ≠ x2 ∧ x1 ≠ x2 := by
  have := h.nx
  simp at this
  exact ⟨this.1.1, this.1.2, this.2⟩
theorem R3.g (h : R3 x0 x1 x2 g0 g1 g2) : g0 ≠ g1 ∧ g0 ≠ g2 ∧ g1 ≠ g2 := by
  have := h.ng
  simp at this
  exact ⟨this.1.1, this.1.2, this.2⟩
theorem ren0 : ren x0 x1 x2 g0 g1 g2 x0 = g0 := if_pos rfl
theorem ren1 (h : R3 x0 x1 x2 g0 g1 g2) : ren x0 x1 x2 g0 g1 g2 x1 = g1 := by
  unfold ren
  rw [if_neg (Ne.symm h.x.1), if_pos rfl]
theorem ren2 (h : R3 x0 x1 x2 g0 g1 g2) : ren x0 x1 x2 g0 g1 g2 x2 = g2 := by
  unfold ren
  rw [if_neg (Ne.symm h.x.2.1), if_neg (Ne.symm h.x.2.2), if_pos rfl]
theorem ren_inj (h : R3 x0 x1 x2 g0 g1 g2) : InjOn (fun x => x ∈ [x0, x1, x2]) (ren x0 x1 x2 g0 g1 g2) := by
  have hg := h.g
  intro x y hx hy e
  have hx : x = x0 ∨ x = x1 ∨ x = x2 := by simpa using hx
  have hy : y = x0 ∨ y = x1 ∨ y = x2 := by simpa using hy
  rcases hx with rfl | rfl | rfl <;> rcases hy with rfl | rfl | rfl <;> first
    | rfl
    | (simp only [ren0, ren1 h, ren2 h] at e; first | exact (hg.1 e).elim | exact (hg.1 e.symm).elim | exact (hg.2.1 e).elim | exact (hg.2.1 e.symm).elim | exact (hg.2.2 e).elim | exact (hg.2.2 e.symm).elim)
theorem ren_ok (h : R3 x0 x1 x2 g0 g1 g2) {x : PySem.Str} (hx : NameOk x) : NameOk (ren x0 x1 x2 g0 g1 g2 x) := by
  unfold ren
  split
  · exact h.okg _ (by simp)
  · split
    · exact h.okg _ (by simp)
    · split
      · exact h.okg _ (by simp)
      · exact hx
/-- the table -/
def tab (x0 x1 x2 g0 g1 g2 : PySem.Str) : List (Key × V) := [(Sum.inr x0, .str g0), (Sum.inr x1, .str g1), (Sum.inr x2, .str g2)]
theorem tab_says (h : R3 x0 x1 x2 g0 g1 g2) : Says (ren x0 x1 x2 g0 g1 g2) (fun x => x ∈ [x0, x1, x2]) (tab x0 x1 x2 g0 g1 g2) := by
  have hx := h.x
  intro x hxx
  have hxx : x = x0 ∨ x = x1 ∨ x = x2 := by simpa using hxx
  rcases hxx with rfl | rfl | rfl
  · rw [ren0]; exact valV_pos rfl
  · rw [ren1 h]
    exact (valV_neg fun e => hx.1 (Sum.inr.inj e)).trans (valV_pos rfl)
  · rw [ren2 h]
    exact (valV_neg fun e => hx.2.1 (Sum.inr.inj e)).trans ((valV_neg fun e => hx.2.2 (Sum.inr.inj e)).trans (valV_pos rfl))
theorem tab_nd (h : R3 x0 x1 x2 g0 g1 g2) : NDict (tab x0 x1 x2 g0 g1 g2) := by
  intro p hp
  have hp : p = (Sum.inr x0, .str g0) ∨ p = (Sum.inr x1, .str g1) ∨ p = (Sum.inr x2, .str g2) := by simpa [tab] using hp
  rcases hp with rfl | rfl | rfl
  · exact ⟨_, _, rfl, rfl, h.okx _ (by simp), h.okg _ (by simp)⟩
  · exact ⟨_, _, rfl, rfl, h.okx _ (by simp), h.okg _ (by simp)⟩
  · exact ⟨_, _, rfl, rfl, h.okx _ (by simp), h.okg _ (by simp)⟩
theorem tab_keys (h : R3 x0 x1 x2 g0 g1 g2) : ((tab x0 x1 x2 g0 g1 g2).map (·.1)).Nodup := by
  have hx := h.x
  show [(Sum.inr x0 : Key), Sum.inr x1, Sum.inr x2].Nodup
  simp
  exact ⟨⟨hx.1, hx.2.1⟩, hx.2.2⟩
end
theorem map_depth' (f : PySem.Str → PySem.Str) (t : Tm) : (t.map f).depth = t.depth := map_depth f t
theorem kids_map (f : PySem.Str → PySem.Str) (t : Tm) : (t.map f).kids = t.kids.map (Tm.map f) := map_kids f t
/-- a set of terms over the names serves the program -/
theorem UN.ub {ns : List PySem.Str} {U F : List Tm} {n : Nat} (h : UN ns U n) (hn : n < 64) (hok : ∀ x ∈ ns, NameOk x) (hF : ∀ t ∈ F, t ∈ U) : UB F ∧ Good F := by
  have hg : Good U := ⟨fun t ht => WF.up hok (h.wf t ht).1, fun t ht => by have := (h.wf t ht).2; omega⟩
  exact ⟨⟨U, by have := h.len; omega, h.kids, hg, hF⟩, fun t ht => hg.1 t (hF t ht), fun t ht => hg.2 t (hF t ht)⟩
theorem UN.ubm {ns : List PySem.Str} {U F : List Tm} {n : Nat} {f : PySem.Str → PySem.Str} (h : UN ns U n) (hn : n < 64) (hok : ∀ x ∈ ns, NameOk (f x)) (hF : ∀ t ∈ F, t ∈ U) : UB (F.map (Tm.map f)) ∧ Good (F.map (Tm.map f)) := by
  have hg : Good (U.map (Tm.map f)) := ⟨fun t ht => by
    obtain ⟨u, hu, rfl⟩ := List.mem_map.mp ht
    exact WF.map hok (h.wf u hu).1, fun t ht => by
    obtain ⟨u, hu, rfl⟩ := List.mem_map.mp ht
    rw [map_depth']
    have := (h.wf u hu).2; omega⟩
  have hF' : ∀ t ∈ F.map (Tm.map f), t ∈ U.map (Tm.map f) := fun t ht => by
    obtain ⟨u, hu, rfl⟩ := List.mem_map.mp ht
    exact List.mem_map.mpr ⟨u, hF u hu, rfl⟩
  refine ⟨⟨U.map (Tm.map f), by rw [List.length_map]; have := h.len; omega, fun t ht k hk => ?_, hg, hF'⟩, fun t ht => hg.1 t (hF' t ht), fun t ht => hg.2 t (hF' t ht)⟩
  obtain ⟨u, hu, rfl⟩ := List.mem_map.mp ht
  rw [kids_map] at hk
  obtain ⟨c, hc, rfl⟩ := List.mem_map.mp hk
  exact List.mem_map.mpr ⟨c, h.kids u hu c hc, rfl⟩
theorem openings_same {F G : List Tm} (h : ∀ x, x ∈ F ↔ x ∈ G) {t u : Tm} (hu : u ∈ openings F t) : u ∈ openings G t := openings_mono (fun {a} hb => by rw [← built_same h a]; exact hb) hu
theorem closed_same {F G : List Tm} (h : ∀ x, x ∈ F ↔ x ∈ G) (hF : Closed F) : Closed G := fun t ht u hu => (h u).mp (hF t ((h t).mpr ht) u (openings_same (fun x => (h x).symm) hu))
theorem tmVs_map {f : PySem.Str → PySem.Str} {H : Hp} {l : List Tm} {acc : List V} (hl : acc.length = l.length) (h : ∀ (i : Nat) (v : V), acc[i]? = some v → ∃ t, l[i]? = some t ∧ TmV H (t.map f) v) : TmVs H (l.map (Tm.map f)) acc := paired_of (by simp [hl]) fun i t v e1 e2 => by
  obtain ⟨u, hu, hv⟩ := h i v e2
  rw [List.getElem?_map, hu] at e1
  cases e1
  exact hv
/-- what the law has at hand: its bag, names, row and table -/
structure LE (ns : List PySem.Str) (kvs : List (Key × V)) (F : List Tm) (b n r d : Addr) (H : Hp) : Prop where
  bag : Bag H b
  nms : H n = some (.lst (ns.map V.str))
  row : ∃ us, H r = some (.lst us) ∧ TmVs H F us
  tab : H d = some (.dK kvs)
  nb : n ≠ b
  rb : r ≠ b
  db : d ≠ b
theorem LE.bg {ns : List PySem.Str} {kvs : List (Key × V)} {F : List Tm} {b n r d : Addr} {H H' : Hp} (h : LE ns kvs F b n r d H) (k : Bg b H H') : LE ns kvs F b n r d H' := by
  obtain ⟨us, e1, e2⟩ := h.row
  exact ⟨k.bag, k.at h.nms h.nb, ⟨us, k.at e1 h.rb, TmVs.mono (k.tups h.bag) e2⟩, k.at h.tab h.db, h.nb, h.rb, h.db⟩
theorem LE.same {ns : List PySem.Str} {kvs : List (Key × V)} {F : List Tm} {b n r d : Addr} {H H' : Hp} (h : LE ns kvs F b n r d H) (k : Same H H') : LE ns kvs F b n r d H' := h.bg (Same.bg k h.bag)
theorem LE.hear {ns : List PySem.Str} {kvs : List (Key × V)} {F : List Tm} {b n r d : Addr} {H : Hp} (h : LE ns kvs F b n r d H) (hl : F.length ≤ 40) (hu : UB F ∧ Good F) : Hear H r F := by
  obtain ⟨us, e1, e2⟩ := h.row
  exact ⟨us, e1, e2, hl, hu.2, hu.1⟩
theorem paired_rev {α β : Type} {R : α → β → Prop} {l : List α} {m : List β} (h : Paired R l m) : Paired R l.reverse m.reverse := by
  induction h with
  | nil => exact .nil
  | cons h1 _ ih =>
    rw [List.reverse_cons, List.reverse_cons]
    exact paired_app ih (.cons h1 .nil)
theorem paired_take {α β : Type} {R : α → β → Prop} : ∀ {l : List α} {m : List β} (n : Nat), Paired R l m → Paired R (l.take n) (m.take n)
  | [], [], n, _ => by simp; exact .nil
  | _ :: _, _ :: _, 0, _ => .nil
  | _ :: _, _ :: _, n + 1, .cons h1 h2 => .cons h1 (paired_take n h2)
theorem cut01 (us : List V) : cutV us none (some 1) = us.take 1 := by
  unfold cutV
  have e1 : HT.sIx us.length 0 none = 0 := rfl
  have e2 : HT.sIx us.length us.length (some 1) = min 1 us.length := rfl
  rw [e1, e2, List.drop_zero, Nat.sub_zero]
  cases us with
  | nil => rfl
  | cons a r => simp
theorem terms_of {N : PySem.Str → Prop} {H : Hp} : ∀ {acc : List V}, (∀ v ∈ acc, ∃ t, TmV H t v ∧ WF N t ∧ t.depth ≤ 4) → ∃ G, TmVs H G acc ∧ ∀ t ∈ G, WF N t ∧ t.depth ≤ 4
  | [], _ => ⟨[], .nil, fun t h => by cases h⟩
  | a :: r, h => by
    obtain ⟨t, h1, h2⟩ := h a (by simp)
    obtain ⟨G, h3, h4⟩ := terms_of (acc := r) fun v hv => h v (List.mem_cons_of_mem _ hv)
    exact ⟨t :: G, .cons h1 h3, fun x hx => by
      rcases List.mem_cons.mp hx with e | e
      · exact e ▸ h2
      · exact h4 x e⟩
theorem names_tm {H : Hp} : ∀ ns : List PySem.Str, TmVs H (ns.map Tm.nm) (ns.map V.str)
  | [] => .nil
  | x :: r => .cons rfl (names_tm r)
end
end Kt
/-! The walks: checks. -/
namespace Kt
open PySem PySem.Spec PyProof.Rows L2
open Tm
section
variable {P : Program} {w : World} {K : PySem.W.Frag} {mg : PySem.Str → Option Value} {base : Heap}
/-! ### the law -/
abbrev N_law : List PySem.Str := ["_law_script", "_law_bag_here", "_law_names_here", "_law_row", "_law_fresh", "_law_table", "_law_k", "_law_other", "_law_terms", "_law_term_here", "_law_moved", "_law_recipe", "_law_paper", "_law_turn", "_law_item"]
abbrev P_law : List PySem.Str := ["_law_script"]
theorem sc_law : FnScope N_law P_law (defScope s_law) := ⟨rfl, rfl, rfl, by decide +kernel, rfl, by decide +kernel, by decide +kernel⟩
theorem mkFn {x : PySem.Str} {st : Stmt} {N ps : List PySem.Str} {k : Nat} {sp : Sp} {f : Addr} {fd : FuncData} (F : FunD K x x (defArgs st) (defBody st) (defScope st) [] [] f fd)
    (S : FnScope N ps (defScope st)) (len : ∀ vs H Q E, sp vs H Q E → vs.length = ps.length)
    (hbody : ∀ (cdv : Value) (A : Around) (outer : List Env) (s : Shared) (H : Hp) (vs : List V) (Q : VK) (E : XK) (f : Addr), Room k (A.deeper (envOfC x (defScope st) s.heap.objs.size f cdv)) → sp vs H Q E →
      ∃ t, PSs (cxOf CX0 P w K mg base N x (defScope st) f cdv A outer s H E).nox (defBody st) t ∧ t { nx := fun _ H' => Q .non H', rt := Q } (start N vs) H) : FnOk P w K mg base CX0 (k + 1) f fd ps sp :=
  F.ok S len fun cdv A outer s H vs Q E hr h => by
    obtain ⟨t, h1, h2⟩ := hbody cdv A outer s H vs Q E f hr h
    exact ⟨t, h1.nox, h2⟩
abbrev NF (ns : List PySem.Str) : PySem.Str → Prop := fun x => x ∈ ns
section
variable (T : Gs K mg w)
  (c_law_bag : C8.Cal P w K mg base 1 "_law_bag" (sp_law_bag (K := K)) []) (c_law_draw : C8.Cal P w K mg base 1 "_law_draw" sp_law_draw []) (c_law_names : C8.Cal P w K mg base 2 "_law_names" sp_law_names []) (c_law_pick : C8.Cal P w K mg base 2 "_law_pick" sp_law_pick [])
  (c_law_term : C8.Cal P w K mg base 9 "_law_term" sp_law_term []) (c_law_hearing : C8.Cal P w K mg base 10 "_law_hearing" sp_law_hearing []) (c_law_parts : C8.Cal P w K mg base 5 "_law_parts" (sp_law_parts 4) []) (c_law_same : C8.Cal P w K mg base 9 "_law_same" (sp_law_same 8) [])
  (c_law_ascending : C8.Cal P w K mg base 7 "_law_ascending" sp_law_ascending []) (c_opened : C8.Cal P w K mg base 12 "opened" sp_opened []) (c_can_make : C8.Cal P w K mg base 12 "can_make" sp_can_make []) (c_closed_paper : C8.Cal P w K mg base 12 "closed_paper" sp_closed_paper [])
  (c_is_closed_paper : C8.Cal P w K mg base 12 "is_closed_paper" sp_is_closed_paper []) (c_recipe_for : C8.Cal P w K mg base 19 "recipe_for" sp_recipe_for []) (c_played : C8.Cal P w K mg base 13 "played" sp_played [])
  (c_renamed : C8.Cal P w K mg base 12 "renamed" sp_renamed [])
def sp_law : Sp := fun vs H Q _ => ∃ (a : Addr) (ns : List Int), vs = [.ref a] ∧ SqL K H a (ns.map V.int) ∧ ns.length ≤ 63 ∧ ∀ H', Q (.bl true) H'
include T c_law_bag c_law_draw c_law_names c_law_pick c_law_term c_law_hearing c_law_parts c_law_same c_law_ascending c_opened c_can_make c_closed_paper c_is_closed_paper c_recipe_for c_played c_renamed
theorem ok_law {f0 : Addr} {fd0 : FuncData} (F0 : FunD K "law" "law" (defArgs s_law) (defBody s_law) (defScope s_law) [] [] f0 fd0) : FnOk P w K mg base CX0 20 f0 fd0 ["_law_script"] (sp_law (K := K)) := by
  have sc := sc_law
  refine mkFn F0 sc (fun vs H Q E h => by obtain ⟨a, ns, rfl, _⟩ := h; rfl) fun cdv A outer s H vs Q E ff hr h => ?_
  obtain ⟨a, is, rfl, ha, h63, q⟩ := h
  refine ⟨_, (pss_cons (ps_set (i := 1) sc.nd rfl (Or.inr rfl) (C8.pe_c c_law_bag hr (by first | decide | omega) rfl (pa_cons (pv 0) pa_nil))) (pss_cons (ps_set (i := 2) sc.nd rfl (Or.inr rfl) (C8.pe_c c_law_names hr (by first | decide | omega) rfl (pa_cons (pv 1) (pa_cons pe_int pa_nil)))) (pss_cons (ps_set (i := 3) sc.nd rfl (Or.inl rfl) (C8.pe_c c_law_hearing hr (by first | decide | omega) rfl (pa_cons (pv 1) (pa_cons (pv 2) (pa_cons (C8.pe_c c_law_draw hr (by first | decide | omega) rfl (pa_cons (pv 1) (pa_cons pe_int pa_nil))) pa_nil))))) (pss_cons (ps_set (i := 4) sc.nd rfl (Or.inl rfl) (pe_lst (pa_cons pe_str (pa_cons pe_str (pa_cons pe_str pa_nil))))) (C8.pss_cut (ps_if (pt_cmpR op_eq (C8.pe_c c_law_draw hr (by first | decide | omega) rfl (pa_cons (pv 1) (pa_cons pe_int pa_nil))) pe_int (nomark _)) (pss_one (ps_set (i := 4) sc.nd rfl (Or.inl rfl) (pe_lst (pa_cons (pe_ix ix_list (pv 2) pe_int (fun _ _ => rfl)) (pa_cons (pe_ix ix_list (pv 2) pe_int (fun _ _ => rfl)) (pa_cons (pe_ix ix_list (pv 2) pe_int (fun _ _ => rfl)) pa_nil)))))) pss_nil) (pss_cons (ps_set (i := 5) sc.nd rfl (Or.inr rfl) pe_dnewK) (C8.pss_cut (ps_for PassesOwn.never rfl (pi_range1 rfl T.range (pa_cons pe_int pa_nil)) (pg_name (i := 6) sc.nd rfl (Or.inl rfl)) (pss_one (ps_dput (hu_of hr) (pv 5) (pe_ix ix_list (pv 2) (pv 6) (fun _ _ => rfl)) (pe_ix ix_list (pv 4) (pv 6) (fun _ _ => rfl)) rfl))) (C8.pss_cut (ps_setLc (i := 7) (own := [("_law_term_here", 9)]) (g := gName 9) (tt := tYes) rfl sc.nd rfl rfl (sw_true rfl rfl rfl (by decide +kernel)) (pi_list (pv 3)) (blkOk_by (N := N_law) (sc := defScope s_law) (by decide +kernel)) (fun _ _ _ _ _ => (pg_name (i := 9) sc.nd rfl (Or.inl rfl))) (fun _ _ _ _ _ => pts_nil) (fun _ _ _ _ _ => (C8.pe_c c_renamed hr (by first | decide | omega) rfl (pa_cons (pv 9) (pa_cons (pv 5) pa_nil))))) (C8.pss_cut (ps_if (pt_not (pt_val (C8.pe_c c_law_same hr (by first | decide | omega) rfl (pa_cons (C8.pe_c c_opened hr (by first | decide | omega) rfl (pa_cons (pv 7) pa_nil)) (pa_cons (C8.pe_c c_law_ascending hr (by first | decide | omega) rfl (pa_cons (pe_lc (own := [("_law_term_here", 9)]) (g := gName 9) (tt := tYes) rfl sc.nd (pi_list (C8.pe_c c_opened hr (by first | decide | omega) rfl (pa_cons (pv 3) pa_nil))) (blkOk_by (N := N_law) (sc := defScope s_law) (by decide +kernel)) (fun _ _ _ _ _ => (pg_name (i := 9) sc.nd rfl (Or.inl rfl))) (fun _ _ _ _ _ => pts_nil) (fun _ _ _ _ _ => (C8.pe_c c_renamed hr (by first | decide | omega) rfl (pa_cons (pv 9) (pa_cons (pv 5) pa_nil))))) pa_nil)) pa_nil))))) (pss_one (ps_ret pe_bl)) pss_nil) (C8.pss_cut (ps_if (pt_not (pt_val (C8.pe_c c_law_same hr (by first | decide | omega) rfl (pa_cons (C8.pe_c c_opened hr (by first | decide | omega) rfl (pa_cons (pe_op op_cat (pe_revL (pv 3)) (pe_slice sl_list (pv 3) po_no (po_some pe_int))) pa_nil)) (pa_cons (C8.pe_c c_opened hr (by first | decide | omega) rfl (pa_cons (pv 3) pa_nil)) pa_nil))))) (pss_one (ps_ret pe_bl)) pss_nil) (C8.pss_cut (ps_set (i := 8) sc.nd rfl (Or.inl rfl) (pe_op op_cat (pe_lc (own := [("_law_turn", 13)]) (g := gName 13) (tt := tYes) rfl sc.nd (pi_range1 rfl T.range (pa_cons pe_int pa_nil)) (blkOk_by (N := N_law) (sc := defScope s_law) (by decide +kernel)) (fun _ _ _ _ _ => (pg_name (i := 13) sc.nd rfl (Or.inl rfl))) (fun _ _ _ _ _ => pts_nil) (fun _ _ _ _ _ => (C8.pe_c c_law_term hr (by first | decide | omega) rfl (pa_cons (pv 1) (pa_cons (pv 2) (pa_cons pe_int pa_nil)))))) (pv 2))) (C8.pss_cut (ps_for PassesOwn.never rfl (pi_list (pv 3)) (pg_name (i := 9) sc.nd rfl (Or.inl rfl)) (pss_one (ps_expr (pe_bm PySem.F.plainAttrs_list PySem.F.slot_list_append PySem.F.type_list_append mt_append (pv 8) (pa_cons (C8.pe_c c_law_pick hr (by first | decide | omega) rfl (pa_cons (pv 1) (pa_cons (C8.pe_c c_law_parts hr (by first | decide | omega) rfl (pa_cons (pv 9) pa_nil)) pa_nil))) pa_nil))))) (pss_cons (ps_for PassesOwn.never rfl (pi_list (pv 8)) (pg_name (i := 9) sc.nd rfl (Or.inl rfl)) (pss_cons (ps_set (i := 10) sc.nd rfl (Or.inl rfl) (C8.pe_c c_renamed hr (by first | decide | omega) rfl (pa_cons (pv 9) (pa_cons (pv 5) pa_nil)))) (pss_cons (ps_if (pt_cmpR op_ne (C8.pe_c c_can_make hr (by first | decide | omega) rfl (pa_cons (pv 7) (pa_cons (pv 10) pa_nil))) (C8.pe_c c_can_make hr (by first | decide | omega) rfl (pa_cons (pv 3) (pa_cons (pv 9) pa_nil))) (nomark _)) (pss_one (ps_ret pe_bl)) pss_nil) (pss_cons (ps_set (i := 11) sc.nd rfl (Or.inl rfl) (C8.pe_c c_recipe_for hr (by first | decide | omega) rfl (pa_cons (pv 3) (pa_cons (pv 9) pa_nil)))) (pss_one (ps_if (pt_cmpR op_isN (pv 11) pe_non (nomark _)) (pss_cons (ps_setLc (i := 12) (own := [("_law_item", 14)]) (g := gName 14) (tt := tYes) rfl sc.nd rfl rfl (sw_true rfl rfl rfl (by decide +kernel)) (pi_list (C8.pe_c c_closed_paper hr (by first | decide | omega) rfl (pa_cons (pv 3) (pa_cons (pv 9) pa_nil)))) (blkOk_by (N := N_law) (sc := defScope s_law) (by decide +kernel)) (fun _ _ _ _ _ => (pg_name (i := 14) sc.nd rfl (Or.inl rfl))) (fun _ _ _ _ _ => pts_nil) (fun _ _ _ _ _ => (C8.pe_c c_renamed hr (by first | decide | omega) rfl (pa_cons (pv 14) (pa_cons (pv 5) pa_nil))))) (pss_one (ps_if (PW.pt (pw_or (pt_not (pt_val (C8.pe_c c_is_closed_paper hr (by first | decide | omega) rfl (pa_cons (pv 7) (pa_cons (pv 10) (pa_cons (pv 12) pa_nil)))))) (pw_or1 (pt_cmpR op_notN (C8.pe_c c_recipe_for hr (by first | decide | omega) rfl (pa_cons (pv 7) (pa_cons (pv 10) pa_nil))) pe_non (nomark _))))) (pss_one (ps_ret pe_bl)) pss_nil))) (pss_one (ps_if (PW.pt (pw_or (pt_not (pt_val (C8.pe_c c_law_same hr (by first | decide | omega) rfl (pa_cons (C8.pe_c c_played hr (by first | decide | omega) rfl (pa_cons (pv 7) (pa_cons (pv 11) pa_nil))) (pa_cons (pv 10) pa_nil))))) (pw_or1 (pt_not (pt_val (C8.pe_c c_law_same hr (by first | decide | omega) rfl (pa_cons (C8.pe_c c_played hr (by first | decide | omega) rfl (pa_cons (pv 3) (pa_cons (pv 11) pa_nil))) (pa_cons (pv 9) pa_nil)))))))) (pss_one (ps_ret pe_bl)) pss_nil)))))))) (pss_one (ps_ret pe_bl))))))))))))))), ?_⟩
  refine ⟨_, rfl, a, is, rfl, ha, h63, fun b H1 k1 hbag => ?_⟩
  refine ⟨_, rfl, b, 3, rfl, hbag, by decide, fun n H2 nl k2 hn2 hnl hn3 hnd hok => ?_⟩
  match nl, hn3 with
  | [x0, x1, x2], _ =>
  have hnb : n ≠ b := fun z => hbag.some (z ▸ hn2)
  have hNm : Nms H2 n [x0, x1, x2] := ⟨hnl, by show 0 < 3; decide, by show 3 ≤ 100; decide, hok⟩
  refine ⟨_, rfl, _, rfl, _, rfl, b, 7, rfl, k2.bag, by decide, by decide, fun many H3 hmany k3 => ?_⟩
  refine ⟨b, n, [x0, x1, x2], many, rfl, k3.bag, hNm.bg k3 hnb, hnb, by omega, fun r H4 F us U k4 hr4 hR4 hF4 hFl hU hFU => ?_⟩
  have hrb : r ≠ b := fun z => k3.bag.some (z ▸ hr4)
  have hn4 : H4 n = some (.lst ([x0, x1, x2].map V.str)) := k4.at (k3.at hnl hnb) hnb
  have hU : UN [x0, x1, x2] U 45 := hU.mono (by show 3 + 7 * many ≤ 45; omega)
  have hFl6 : F.length ≤ 6 := by omega
  have hF40 : F.length ≤ 40 := by omega
  -- the new names
  refine ⟨by show 3 ≤ sizeLine; decide, fun fr hfr => ?_⟩
  have hfrb : fr ≠ b := fun z => k4.bag.some (z ▸ hfr)
  refine ⟨fun σ' H' => ∃ (fr : Addr) (g0 g1 g2 : PySem.Str), σ' = [some (.ref a), some (.ref b), some (.ref n), some (.ref r), some (.ref fr), none, none, none, none, none, none, none, none, none, none] ∧ Bg b H4 H' ∧ fr ≠ b ∧ H' fr = some (.lst [.str g0, .str g1, .str g2]) ∧ R3 x0 x1 x2 g0 g1 g2, ?_, fun σ' H5 m5 => ?_⟩
  · refine ⟨_, rfl, b, 2, rfl, k4.bag.same (sUp hfr), by decide, by decide, fun d H5 hd k5 => ⟨rfl, _, rfl, ite2 (fun _ => ?_) fun _ => ?_⟩⟩
    · have hn5 := k5.at (sUp hfr _ _ hn4) hnb
      refine ⟨_, rfl, _, _, _, _, rfl, rfl, SqL.of (hn5), at1, _, rfl, _, _, _, _, rfl, rfl, SqL.of (hn5), at2, _, rfl, _, _, _, _, rfl, rfl, SqL.of (hn5), at0, by show 3 ≤ sizeLine; decide, fun fr2 hfr2 => ?_⟩
      refine ⟨fr2, x1, x2, x0, rfl, ((Same.bg (sUp hfr) k4.bag).trans k5).same (sUp hfr2), fun z => k5.bag.some (z ▸ hfr2), upd_same, hnd, ?_, hok, fun x hx => hok x (by simp at hx ⊢; rcases hx with h | h | h <;> simp [h])⟩
      have h0 : x0 ≠ x1 ∧ x0 ≠ x2 ∧ x1 ≠ x2 := by
        simp at hnd
        exact ⟨hnd.1.1, hnd.1.2, hnd.2⟩
      simp
      exact ⟨⟨h0.2.2, Ne.symm h0.1⟩, Ne.symm h0.2.1⟩
    · exact ⟨fr, "qa", "qb", "qc", rfl, (Same.bg (sUp hfr) k4.bag).trans k5, hfrb, k5.at upd_same hfrb, hnd, by decide +kernel, hok, fresh_ok⟩
  obtain ⟨fr, g0, g1, g2, rfl, k5, hfrb, hfr5, hR3⟩ := m5
  -- the table
  refine fun d hd5 => ?_
  have hdb : d ≠ b := fun z => k5.bag.some (z ▸ hd5)
  have hn5 := k5.at hn4 hnb
  have hdn : n ≠ d := fun z => by subst z; rw [hn5] at hd5; cases hd5
  have hdf : fr ≠ d := fun z => by subst z; rw [hfr5] at hd5; cases hd5
  refine ⟨fun σ' H' => ∃ x6, σ' = [some (.ref a), some (.ref b), some (.ref n), some (.ref r), some (.ref fr), some (.ref d), x6, none, none, none, none, none, none, none, none] ∧ Bg b H5 H' ∧ H' d = some (.dK (tab x0 x1 x2 g0 g1 g2)), ?_, fun σ' H6 m6 => ?_⟩
  · refine ⟨3, rfl, by decide, by decide, for_it walk_range (fun i σ' H' => ∃ x6, σ' = [some (.ref a), some (.ref b), some (.ref n), some (.ref r), some (.ref fr), some (.ref d), x6, none, none, none, none, none, none, none, none] ∧ Bg b H5 H' ∧ SamX (fun a => a = d) H5 H' ∧ H' d = some (.dK ((tab x0 x1 x2 g0 g1 g2).take i)))
      ⟨none, rfl, (Bg.refl k5.bag).up k5.bag hd5, (SamX.refl _ _).up hd5, upd_same⟩ (fun _ _ _ _ _ => trivial) (fun i y σ' H6 H7 hi pp yy => ?_) (fun σ' H6 pp => ?_)⟩
    · obtain ⟨x6, rfl, k6, s6, hd6⟩ := pp
      obtain ⟨rfl, rfl⟩ := yy
      have hi : i < 3 := hi
      have hn6 := s6 _ _ hdn hn5
      have hf6 := s6 _ _ hdf hfr5
      have hx := hR3.x
      have step : ∀ (x g : PySem.Str), [V.str x0, .str x1, .str x2][i]? = some (.str x) → [V.str g0, .str g1, .str g2][i]? = some (.str g) → putK ((tab x0 x1 x2 g0 g1 g2).take i) (Sum.inr x) (.str g) = (tab x0 x1 x2 g0 g1 g2).take (i + 1) → _ := fun x g e1 e2 e3 => (⟨x, g, e1, e2, e3⟩ : ∃ x g, [V.str x0, .str x1, .str x2][i]? = some (.str x) ∧ [V.str g0, .str g1, .str g2][i]? = some (.str g) ∧ putK ((tab x0 x1 x2 g0 g1 g2).take i) (Sum.inr x) (.str g) = (tab x0 x1 x2 g0 g1 g2).take (i + 1))
      have hst : ∃ x g, [V.str x0, .str x1, .str x2][i]? = some (.str x) ∧ [V.str g0, .str g1, .str g2][i]? = some (.str g) ∧ putK ((tab x0 x1 x2 g0 g1 g2).take i) (Sum.inr x) (.str g) = (tab x0 x1 x2 g0 g1 g2).take (i + 1) := by
        match i, hi with
        | 0, _ => exact ⟨x0, g0, rfl, rfl, putK_new _ rfl⟩
        | 1, _ => exact ⟨x1, g1, rfl, rfl, putK_new _ ((valV_neg fun e => hx.1 (Sum.inr.inj e)).trans rfl)⟩
        | 2, _ => exact ⟨x2, g2, rfl, rfl, putK_new _ ((valV_neg fun e => hx.2.1 (Sum.inr.inj e)).trans ((valV_neg fun e => hx.2.2 (Sum.inr.inj e)).trans rfl))⟩
      obtain ⟨x, g, e1, e2, e3⟩ := hst
      have e0 : (0 : Int) + (i : Nat) = (i : Nat) := by omega
      have atI' : ∀ {l : List V} {v : V}, l[i]? = some v → atI l ((0 : Int) + (i : Nat)) = some v := fun h => by rw [e0]; exact atI_nat h
      refine ⟨_, rfl, _, rfl, _, _, _, _, rfl, rfl, SqL.of hf6, atI' e2, _, rfl, _, rfl, _, rfl, _, _, _, _, rfl, rfl, SqL.of hn6, atI' e1, _, _, rfl, DPut.k (k := Sum.inr x) hd6 (lt_line (by rw [List.length_take]; omega)), ?_⟩
      rw [e3]
      exact ⟨_, rfl, k6.up k5.bag hd5, s6.up hd5, upd_same⟩
    · obtain ⟨x6, rfl, k6, s6, hd6⟩ := pp
      exact ⟨_, rfl, k6, hd6⟩
  obtain ⟨x6, rfl, k6, hd6⟩ := m6
  generalize hf : ren x0 x1 x2 g0 g1 g2 = f at *
  have hfinj : InjOn (NF [x0, x1, x2]) f := hf ▸ ren_inj hR3
  have hfok : ∀ x, NameOk x → NameOk (f x) := fun x hx => hf ▸ ren_ok hR3 hx
  have hsays : Says f (NF [x0, x1, x2]) (tab x0 x1 x2 g0 g1 g2) := hf ▸ tab_says hR3
  have hNok : ∀ x, NF [x0, x1, x2] x → NameOk x := hok
  have hLE : LE [x0, x1, x2] (tab x0 x1 x2 g0 g1 g2) F b n r d H6 := by
    have k56 := k5.trans k6
    exact ⟨k6.bag, k56.at hn4 hnb, ⟨us, k56.at hR4 hrb, TmVs.mono (k56.tups k4.bag) hF4⟩, hd6, hnb, hrb, hdb⟩
  have hub := hU.ub (by decide) hok hFU
  have hubm := hU.ubm (f := f) (by decide) (fun x hx => hfok x (hok x hx)) hFU
  have hFN : All (NF [x0, x1, x2]) F := fun t ht => (hU.wf t (hFU t ht)).1
  have hFd : ∀ t ∈ F, t.depth ≤ 4 := fun t ht => (hU.wf t (hFU t ht)).2
  have hnd3 := tab_nd hR3
  have hky3 := tab_keys hR3
  have hk3 : (tab x0 x1 x2 g0 g1 g2).length ≤ 1000 := by show 3 ≤ 1000; decide
  generalize tab x0 x1 x2 g0 g1 g2 = kvs at *
  generalize hns : [x0, x1, x2] = ns at *
  -- a term renamed
  have ren1 : ∀ (H' : Hp) (v : V) (t : Tm) (Q' : VK), H' d = some (.dK kvs) → TmV H' t v → WF (NF ns) t → t.depth ≤ 5 → (∀ v' H'', Same H' H'' → TmV H'' (t.map f) v' → Q' v' H'') → sp_renamed [v, .ref d] H' Q' C8.E0 := fun H' v t Q' hd ht hw h5 qq =>
    ⟨f, NF ns, v, t, d, kvs, hNok, rfl, ht, hw, h5, hd, hsays, hnd3, hky3, hk3, qq⟩
  have hclo1 : ∀ {Fc Fc1 : List Tm}, IsClo (start0 F) Fc → IsClo (start0 (F.map (Tm.map f))) Fc1 → Fc1 = Fc.map (Tm.map f) := fun h1 h2 => clo_map hfinj h1 hFN h2
  have hcloN : ∀ {Fc : List Tm}, IsClo (start0 F) Fc → All (NF ns) Fc := fun h => h.all (start0_all hFN)
  -- the other hearing
  obtain ⟨us6, hr6, hF6⟩ := hLE.row
  have hul6 : us6.length = F.length := (Paired.length hF6).symm
  refine ⟨fun σ' H' => ∃ o, σ' = [some (.ref a), some (.ref b), some (.ref n), some (.ref r), some (.ref fr), some (.ref d), x6, some (.ref o), none, none, none, none, none, none, none] ∧ Same H6 H' ∧ o ≠ b ∧ ∃ us', H' o = some (.lst us') ∧ TmVs H' (F.map (Tm.map f)) us', ?_, fun σ' H7 m7 => ?_⟩
  · refine ⟨_, rfl, r, rfl, ⟨_, SqL.of hr6⟩, fun L hL => lc_map walk_list (fun i H' v => ∃ t, F[i]? = some t ∧ TmV H' (t.map f) v) (lt_line (by omega)) hL (fun i H1 H2 v tu ⟨t, e1, e2⟩ => ⟨t, e1, e2.mono tu⟩) (fun H' k => SqL.of (k _ _ hr6)) (fun i y H7 H8 N hi k yy n' => ?_) (fun H7 acc k hacc hl hr' => ?_)⟩
    · obtain ⟨rfl, hy⟩ := yy
      obtain ⟨t, ht, hty⟩ := paired_at' hF6 hy
      have htm := List.mem_of_getElem? ht
      exact ⟨rfl, _, rfl, _, rfl, ren1 _ _ t _ (k _ _ hLE.tab) (hty.same k) (hFN t htm) (by have := hFd t htm; omega) fun v' H'' k' hv' => n' _ _ k' ⟨t, ht, hv'⟩⟩
    · exact ⟨L, rfl, k, fun z => hLE.bag.some (z ▸ hL), acc, hacc, tmVs_map (by omega) hr'⟩
  obtain ⟨o, rfl, k7, hob, us7, ho7, hF7⟩ := m7
  have hLE7 := hLE.same k7
  have hHo : Hear H7 o (F.map (Tm.map f)) := ⟨us7, ho7, hF7, by rw [List.length_map]; omega, hubm.2, hubm.1⟩
  have hHr : Hear H7 r F := hLE7.hear hF40 hub
  clear hr6 hF6 us6 hul6
  -- what is opened goes along
  refine ⟨fun σ' H' => σ' = [some (.ref a), some (.ref b), some (.ref n), some (.ref r), some (.ref fr), some (.ref d), x6, some (.ref o), none, none, none, none, none, none, none] ∧ Same H7 H', ?_, fun σ' H8 m8 => ?_⟩
  · refine ⟨_, rfl, o, _, rfl, hHo, fun p1 Fc1 ts1 us1 H8 hc1 k8 ho1 hts1 hp1 => ⟨_, rfl, r, F, rfl, hHr.same k8, fun p2 Fc ts us2 H9 hc k9 ho hts hp2 => ⟨p2, rfl, ⟨_, SqL.of hp2⟩, fun L hL => ?_⟩⟩⟩
    have hul2 : us2.length = ts.length := (Paired.length hts).symm
    obtain ⟨hcG, hcl⟩ := clo_U hc hub.1
    have htl : ts.length ≤ 63 := by rw [ho.1.length_eq]; exact hcl
    have htsN : ∀ t ∈ ts, WF (NF ns) t := fun t ht => hcloN hc t (ho.1.mem_iff.mp ht)
    have htsd : ∀ t ∈ ts, t.depth ≤ 5 := fun t ht => hcG.2 t (ho.1.mem_iff.mp ht)
    have k79 := k8.trans k9
    refine lc_map walk_list (fun i H' v => ∃ t, ts[i]? = some t ∧ TmV H' (t.map f) v) (lt_line (by omega)) hL (fun i H1 H2 v tu ⟨t, e1, e2⟩ => ⟨t, e1, e2.mono tu⟩) (fun H' k => SqL.of (k _ _ hp2)) (fun i y H10 H11 N hi k yy n' => ?_) (fun H10 acc k10 hacc hl hr' => ?_)
    · obtain ⟨rfl, hy⟩ := yy
      obtain ⟨t, ht, hty⟩ := paired_at' hts hy
      have htm := List.mem_of_getElem? ht
      exact ⟨rfl, _, rfl, _, rfl, ren1 _ _ t _ ((k79.trans k) _ _ hLE7.tab) (hty.same k) (htsN t htm) (htsd t htm) fun v' H'' k' hv' => n' _ _ k' ⟨t, ht, hv'⟩⟩
    · have hndt : ts.Nodup := ho.1.nodup_iff.mpr (hc.nodup (start0_nodup F))
      have hAm : All NameOk (ts.map (Tm.map f)) := fun t ht => by
        obtain ⟨u, hu, rfl⟩ := List.mem_map.mp ht
        exact WF.map (fun x hx => hfok x (hNok x hx)) (htsN u hu)
      have hdm : ∀ t ∈ ts.map (Tm.map f), t.depth ≤ 5 := fun t ht => by
        obtain ⟨u, hu, rfl⟩ := List.mem_map.mp ht
        rw [map_depth']
        exact htsd u hu
      refine ⟨L, ts.map (Tm.map f), acc, rfl, hacc, tmVs_map (by omega) hr', by rw [List.length_map]; omega, nodup_map_on hndt fun x y hx hy e => map_inj hfinj (htsN x hx) (htsN y hy) e, hAm, hdm, fun p4 H11 ts4 us4 k11 ho4 hts4 hp4 => ?_⟩
      have e1 := hclo1 hc hc1
      have e2 : ts1 = ts4 := by
        refine InOrder.one (N := NameOk) (fun _ h => h) ho1 ho4 ?_ hAm ?_
        · exact (clo_U hc1 hubm.1).1.1
        · rw [e1]
          exact (ho.1.map _).symm
      subst e2
      have k811 := k9.trans (k10.trans k11)
      refine ⟨.ref p1, .ref p4, rfl, sm_list (n := 6) (fun t ht => ?_) (k811 _ _ hp1) hp4 (TmVs.same k811 hts1) hts4 ?_, fun H12 k12 => ⟨_, rfl, iteF ⟨rfl, k8.trans (k811.trans k12)⟩⟩⟩
      · have := hdm t (ho4.1.mem_iff.mp ht); omega
      · rw [ho4.1.length_eq, List.length_map]; omega
  obtain ⟨rfl, k8⟩ := m8
  -- order and repeats change nothing
  refine ⟨fun σ' H' => σ' = [some (.ref a), some (.ref b), some (.ref n), some (.ref r), some (.ref fr), some (.ref d), x6, some (.ref o), none, none, none, none, none, none, none] ∧ Same H8 H', ?_, fun σ' H9 m9 => ?_⟩
  · obtain ⟨us8, hr8, hF8⟩ := (hLE7.same k8).row
    have hul8 : us8.length = F.length := (Paired.length hF8).symm
    refine ⟨_, rfl, r, us8, rfl, SqL.of hr8, fun p1 hp1 => ⟨_, rfl, _, rfl, r, us8, rfl, SqL.of (sUp hp1 _ _ hr8), fun p2 hp2 => ⟨p1, p2, us8.reverse, _, rfl, rfl, sUp hp2 _ _ upd_same, upd_same, ?_, fun p3 hp3 => ?_⟩⟩⟩
    · rw [cut01]
      refine le_line ?_
      simp
      omega
    rw [cut01] at hp3 ⊢
    have k9 : Same H8 _ := (sUp (o := .lst us8.reverse) hp1).trans ((sUp (o := .lst (us8.take 1)) hp2).trans (sUp (o := .lst (us8.reverse ++ us8.take 1)) hp3))
    have hset : ∀ x, x ∈ F.reverse ++ F.take 1 ↔ x ∈ F := fun x => by
      rw [List.mem_append, List.mem_reverse]
      exact ⟨fun h => h.elim id take_mem, .inl⟩
    have hub2 := hU.ub (F := F.reverse ++ F.take 1) (by decide) hok (fun t ht => hFU t ((hset t).mp ht))
    refine ⟨p3, F.reverse ++ F.take 1, rfl, ⟨_, upd_same, TmVs.same k9 (paired_app (paired_rev hF8) (paired_take 1 hF8)), by rw [List.length_append, List.length_reverse, List.length_take]; omega, hub2.2, hub2.1⟩, fun p4 Fc1 ts1 us1 H10 hc1 k10 ho1 hts1 hp4 => ⟨_, rfl, r, F, rfl, hHr.same (k8.trans (k9.trans k10)), fun p5 Fc ts us5 H11 hc k11 ho hts hp5 => ?_⟩⟩
    obtain ⟨hcG, hcl⟩ := clo_U hc hub.1
    have e2 : ts1 = ts := by
      refine InOrder.one (N := NameOk) (fun _ h => h) ho1 ho (clo_U hc1 hub2.1).1.1 hcG.1 (perm_of (hc1.nodup (start0_nodup _)) (hc.nodup (start0_nodup _)) (clo_same hc1 hc hset))
    subst e2
    refine ⟨.ref p4, .ref p5, rfl, sm_list (n := 6) (fun t ht => ?_) (k11 _ _ hp4) hp5 (TmVs.same k11 hts1) hts ?_, fun H12 k12 => ⟨_, rfl, iteF ⟨rfl, k9.trans (k10.trans (k11.trans k12))⟩⟩⟩
    · have := hcG.2 t (ho.1.mem_iff.mp ht); omega
    · rw [ho.1.length_eq]; omega
  obtain ⟨rfl, k9⟩ := m9
  have k79 := k8.trans k9
  have hLE9 := hLE7.same k79
  have hHo9 := hHo.same k79
  clear hHo hHr hLE7 hLE
  -- the terms that are asked for
  refine ⟨fun σ' H' => ∃ tl ws G, σ' = [some (.ref a), some (.ref b), some (.ref n), some (.ref r), some (.ref fr), some (.ref d), x6, some (.ref o), some (.ref tl), none, none, none, none, none, none] ∧ Bg b H9 H' ∧ H9 tl = none ∧ H' tl = some (.lst ws) ∧ TmVs H' G ws ∧ G.length ≤ 10 ∧ (∀ t ∈ G, WF (NF ns) t ∧ t.depth ≤ 4), ?_, fun σ' H10 m10 => ?_⟩
  · refine ⟨4, rfl, by decide, by decide, fun L hL => ?_⟩
    have hLb : L ≠ b := fun z => hLE9.bag.some (z ▸ hL)
    refine lc_mapX walk_range (fun a => a = b) (fun H' => Bg b H9 H') (fun _ H' v => ∃ t, TmV H' t v ∧ WF (NF ns) t ∧ t.depth ≤ 4) (by show 4 < sizeLine; decide) hL (fun a e => by subst e; exact ⟨hLE9.bag.some, fun H' k => k.bag.notup⟩) (fun H' o k => k.up hLE9.bag hL) (Bg.refl hLE9.bag) (fun i H1 H2 v tu ⟨t, e1, e2⟩ => ⟨t, e1.mono tu, e2⟩) (fun _ _ _ => trivial) (fun j y H10 H11 N hj sx k10 yy n' => ?_) (fun H10 acc sx k10 hacc hl hr' => ?_)
    · obtain ⟨rfl, rfl⟩ := yy
      have hNm : Nms H11 n ns := ⟨(hLE9.bg k10).nms, by rw [← hns]; show 0 < 3; decide, by rw [← hns]; show 3 ≤ 100; decide, hNok⟩
      exact ⟨rfl, _, rfl, _, rfl, b, n, ns, 3, rfl, k10.bag, hNm, hnb, by decide, by decide, fun v t H12 k12 ht hw hd => n' _ _ k12.s (k10.trans k12) ⟨t, ht, hw, by omega⟩⟩
    · obtain ⟨G, hG, hGok⟩ := terms_of (acc := acc) fun v hv => by
        obtain ⟨j, hj⟩ := List.getElem?_of_mem hv
        exact hr' j v hj
      have hn10 := (hLE9.bg k10).nms
      have hal : acc.length = 4 := hl
      have hnl3 : ns.length = 3 := by rw [← hns]; rfl
      refine ⟨_, rfl, L, n, acc, _, rfl, rfl, hacc, hn10, le_line (by rw [List.length_map]; omega), fun p hp => ?_⟩
      have hGl : G.length = 4 := by rw [← hal]; exact Paired.length hG
      have k9p : H9 p = none := by
        cases e : H9 p with
        | none => rfl
        | some u =>
          by_cases hpb : p = b
          · subst hpb; exact (k10.bag.some hp).elim
          · rw [k10.at e hpb] at hp; cases hp
      refine ⟨p, _, G ++ ns.map Tm.nm, rfl, k10.same (sUp hp), k9p, upd_same, paired_app (TmVs.same (sUp hp) hG) (names_tm ns), by rw [List.length_append, List.length_map]; omega, fun t ht => ?_⟩
      rcases List.mem_append.mp ht with ht | ht
      · exact hGok t ht
      · obtain ⟨x, hx, rfl⟩ := List.mem_map.mp ht
        exact ⟨hx, by show 1 ≤ 4; decide⟩
  obtain ⟨tl, ws, G, rfl, k10, htl9, htl10, hG10, hGl, hGok⟩ := m10
  have htlr : r ≠ tl := fun z => by
    obtain ⟨us9, hr9, _⟩ := hLE9.row
    rw [z, htl9] at hr9; cases hr9
  -- and parts of what was heard
  refine ⟨fun σ' H' => ∃ x9 ws G, σ' = [some (.ref a), some (.ref b), some (.ref n), some (.ref r), some (.ref fr), some (.ref d), x6, some (.ref o), some (.ref tl), x9, none, none, none, none, none] ∧ Bg b H9 H' ∧ H' tl = some (.lst ws) ∧ TmVs H' G ws ∧ (∀ t ∈ G, WF (NF ns) t ∧ t.depth ≤ 4), ?_, fun σ' H11 m11 => ?_⟩
  · obtain ⟨us10, hr10, hF10⟩ := (hLE9.bg k10).row
    have hul10 : us10.length = F.length := (Paired.length hF10).symm
    refine ⟨_, rfl, r, rfl, ⟨_, SqL.of hr10⟩, for_it walk_list (fun i σ' H' => ∃ x9 ws G, σ' = [some (.ref a), some (.ref b), some (.ref n), some (.ref r), some (.ref fr), some (.ref d), x6, some (.ref o), some (.ref tl), x9, none, none, none, none, none] ∧ Bg b H9 H' ∧ SamX (fun a => a = b ∨ a = tl) H10 H' ∧ Tups H10 H' ∧ H' tl = some (.lst ws) ∧ TmVs H' G ws ∧ G.length ≤ 10 + i ∧ (∀ t ∈ G, WF (NF ns) t ∧ t.depth ≤ 4))
      ⟨none, ws, G, rfl, k10, SamX.refl _ _, Tups.refl _, htl10, hG10, by omega, hGok⟩ (fun i σ' H' _ pp => by obtain ⟨_, _, _, _, _, k, _⟩ := pp; exact SqL.of (k _ _ (fun z => z.elim hrb htlr) hr10)) (fun i y σ' H11 H12 hi pp yy => ?_) (fun σ' H11 pp => ?_)⟩
    · obtain ⟨x9, ws, G, rfl, k11, s11, tu11, htl11, hG11, hGl11, hGok11⟩ := pp
      obtain ⟨rfl, hy⟩ := yy
      obtain ⟨t, ht, hty⟩ := paired_at' hF10 hy
      have htm := List.mem_of_getElem? ht
      have htlb : tl ≠ b := fun z => hLE9.bag.some (z ▸ htl9)
      have hwl : ws.length = G.length := (Paired.length hG11).symm
      refine ⟨_, rfl, .inl ⟨rfl, _, SqL.of htl11⟩, _, rfl, _, rfl, y, t, rfl, hty.mono tu11, WF.up hNok (hFN t htm), hFd t htm, by have := hFd t htm; omega, fun p13 H13 Gp wp k13 hn13 hp13 hGp hGp0 hGpl hGpg hGpU => ?_⟩
      have hwpl : wp.length = Gp.length := (Paired.length hGp).symm
      have hp13b : p13 ≠ b := fun z => k11.bag.some (z ▸ hn13)
      refine ⟨b, p13, wp, rfl, k11.bag.same k13, hp13, hp13b, by omega, by have : (2 : Nat) ^ 4 = 16 := rfl; omega, fun v H14 hv k14 => ?_⟩
      obtain ⟨j, hj⟩ := List.getElem?_of_mem hv
      obtain ⟨u, hu, huv⟩ := paired_at' (TmVs.mono (k14.tups (k11.bag.same k13)) hGp) hj
      have huU := hU.wf u (hGpU U hU.kids (hFU t htm) u (List.mem_of_getElem? hu))
      have htl14 := k14.at (k13 _ _ htl11) htlb
      have tu : Tups H14 (upd H14 tl (.lst (ws ++ [v]))) := tups_up (fun xs e => by rw [htl14] at e; cases e)
      have tu14 : Tups H12 H14 := (sTups k13).trans (k14.tups (k11.bag.same k13))
      refine ⟨tl, ws, v, rfl, rfl, htl14, lt_line (by omega), _, _, G ++ [u], rfl, ((k11.same k13).trans k14).up hLE9.bag htl9, (s11.trans ((Same.x _ k13).trans (fun b o n e => k14.s _ _ (fun z => n (.inl z)) e))).trans (fun b o n e => (upd_ne (fun z => n (.inr z))).trans e), tu11.trans (tu14.trans tu), upd_same, paired_app (TmVs.mono (tu14.trans tu) hG11) (.cons (huv.mono tu) .nil), by rw [List.length_append]; simp; omega, fun x hx => ?_⟩
      rcases List.mem_append.mp hx with hx | hx
      · exact hGok11 x hx
      · rw [List.mem_singleton] at hx; exact hx ▸ huU
    · obtain ⟨x9, ws, G, rfl, k11, s11, tu11, htl11, hG11, hGl11, hGok11⟩ := pp
      exact ⟨_, _, _, rfl, k11, htl11, hG11, hGok11⟩
  obtain ⟨x9, ws, G, rfl, k11, htl11, hG11, hGok11⟩ := m11
  have hLE11 := hLE9.bg k11
  have hHo11 : Hear H11 o (F.map (Tm.map f)) := by
    obtain ⟨us9, e1, e2, e3⟩ := hHo9
    exact ⟨us9, k11.at e1 hob, TmVs.mono (k11.tups hLE9.bag) e2, e3⟩
  have hHr11 := hLE11.hear hF40 hub
  have hwl11 : ws.length = G.length := (Paired.length hG11).symm
  clear hHo9 hLE9
  refine ⟨_, rfl, tl, rfl, ⟨_, SqL.of htl11⟩, for_it walk_list (fun i σ' H' => ∃ x9 x10 x11 x12, σ' = [some (.ref a), some (.ref b), some (.ref n), some (.ref r), some (.ref fr), some (.ref d), x6, some (.ref o), some (.ref tl), x9, x10, x11, x12, none, none] ∧ Same H11 H')
    ⟨x9, none, none, none, rfl, Same.refl _⟩ (fun i σ' H' _ pp => by obtain ⟨_, _, _, _, _, k⟩ := pp; exact SqL.of (k _ _ htl11)) (fun i y σ' H12 H13 hi pp yy => ?_) (fun σ' H12 pp => ?_)⟩
  · obtain ⟨y9, y10, y11, y12, rfl, k12⟩ := pp
    obtain ⟨rfl, hy⟩ := yy
    obtain ⟨t, ht, hty⟩ := paired_at' hG11 hy
    obtain ⟨hwt, hdt⟩ := hGok11 t (List.mem_of_getElem? ht)
    have hwtN := WF.up hNok hwt
    have hwm : WF NameOk (t.map f) := WF.map (fun x hx => hfok x (hNok x hx)) hwt
    have hdm : (t.map f).depth ≤ 5 := by rw [map_depth']; omega
    have hty12 := hty.same k12
    refine ⟨_, rfl, _, rfl, ren1 _ _ t _ (k12 _ _ hLE11.tab) hty12 hwt (by omega) fun vm H14 k14 hvm => ?_⟩
    have k1114 := k12.trans k14
    refine ⟨_, rfl, _, rfl, o, _, vm, t.map f, rfl, hHo11.same k1114, hvm, hwm, hdm, fun Fc1 H15 hc1 k15 => ⟨_, rfl, _, rfl, r, F, y, t, rfl, hHr11.same (k1114.trans k15), hty12.same (k14.trans k15), hwtN, by omega, fun Fc H16 hc k16 => ?_⟩⟩
    have hbm : built Fc1 (t.map f) = built Fc t := by
      rw [hclo1 hc hc1]
      exact built_map hfinj (hcloN hc) hwt
    refine ⟨rfl, _, rfl, ifF (by rw [decide_eq_true (congrArg V.bl hbm)]; rfl) ?_⟩
    have k1116 := k1114.trans (k15.trans k16)
    have hty16 := hty12.same (k14.trans (k15.trans k16))
    have hvm16 := hvm.same (k15.trans k16)
    have hHo16 := hHo11.same k1116
    have hHr16 := hHr11.same k1116
    refine ⟨_, rfl, _, rfl, r, F, y, t, rfl, hHr16, hty16, hwtN, by omega, fun F2 H17 hc2 hb2 k17 => ?_, fun F2 rv H17 S W hc2 hb2 k17 hrec hrun hS6 hWg hWl => ?_⟩
    · -- it can't be made: papers
      refine ⟨_, rfl, rfl, _, rfl, ifT (by decide) ?_⟩
      refine ⟨_, rfl, _, rfl, r, F, y, t, rfl, hHr16.same k17, hty16.same k17, hwtN, by omega, fun F3 hc3 => by rw [hc3.one hc2]; exact hb2, fun p18 F3 ts us18 H18 hc3 k18 ho hts hp18 => ⟨p18, rfl, ⟨_, SqL.of hp18⟩, fun L hL => ?_⟩⟩
      have hul18 : us18.length = ts.length := (Paired.length hts).symm
      obtain ⟨hcG, hcl⟩ := clo_U hc3 hub.1
      have htl : ts.length ≤ 63 := by rw [ho.1.length_eq]; exact hcl
      have htsN : ∀ t ∈ ts, WF (NF ns) t := fun t ht => hcloN hc3 t (ho.1.mem_iff.mp ht)
      have htsd : ∀ t ∈ ts, t.depth ≤ 5 := fun t ht => hcG.2 t (ho.1.mem_iff.mp ht)
      have k1118 := k1116.trans (k17.trans k18)
      refine lc_map walk_list (fun i H' v => ∃ t, ts[i]? = some t ∧ TmV H' (t.map f) v) (lt_line (by omega)) hL (fun i H1 H2 v tu ⟨t, e1, e2⟩ => ⟨t, e1, e2.mono tu⟩) (fun H' k => SqL.of (k _ _ hp18)) (fun j z H19 H20 N hj k yy n' => ?_) (fun H19 acc k19 hacc hl hr' => ?_)
      · obtain ⟨rfl, hz⟩ := yy
        obtain ⟨u, hu, huz⟩ := paired_at' hts hz
        have hum := List.mem_of_getElem? hu
        exact ⟨rfl, _, rfl, _, rfl, ren1 _ _ u _ ((k1118.trans k) _ _ hLE11.tab) (huz.same k) (htsN u hum) (htsd u hum) fun v' H'' k' hv' => n' _ _ k' ⟨u, hu, hv'⟩⟩
      · have k1119 := k1118.trans k19
        have hcm : IsClo (start0 (F.map (Tm.map f))) (F3.map (Tm.map f)) := by
          have := hc3.map hfinj (start0_all hFN)
          rw [← start0_map hfinj hFN] at this
          exact this
        have hset : ∀ x, x ∈ F3.map (Tm.map f) ↔ x ∈ ts.map (Tm.map f) := fun x => (ho.1.map (Tm.map f)).mem_iff.symm
        have hGm : Good (ts.map (Tm.map f)) := ⟨fun x hx => by
          obtain ⟨u, hu, rfl⟩ := List.mem_map.mp hx
          exact WF.map (fun x hx => hfok x (hNok x hx)) (htsN u hu), fun x hx => by
          obtain ⟨u, hu, rfl⟩ := List.mem_map.mp hx
          rw [map_depth']
          exact htsd u hu⟩
        have hb3 : built (F3.map (Tm.map f)) (t.map f) = false := by
          rw [built_map hfinj (hcloN hc3) hwt, hc3.one hc2]
          exact hb2
        refine ⟨_, rfl, _, rfl, _, rfl, o, _, vm, t.map f, L, ts.map (Tm.map f), acc, rfl, hHo11.same k1119, hvm16.same (k17.trans (k18.trans k19)), hwm, hdm, hacc, tmVs_map (by omega) hr', hGm, by rw [List.length_map]; omega, fun x hx => (hset x).mp (hcm.ge x (start0_mem.mpr hx)), (built_same hset _).symm.trans hb3, closed_same hset hcm.closed, fun H20 k20 => ⟨_, rfl, iteF ?_⟩⟩
        refine ⟨_, rfl, _, rfl, o, _, vm, t.map f, rfl, hHo11.same (k1119.trans k20), hvm16.same (k17.trans (k18.trans (k19.trans k20))), hwm, hdm, fun F5 H21 hc5 hb5 k21 => ?_, fun F5 rv H21 S W hc5 hb5 _ _ _ _ _ _ => ?_⟩
        · exact ⟨rfl, _, rfl, ifF (by decide) ⟨_, _, _, _, rfl, k1119.trans (k20.trans k21)⟩⟩
        · rw [hc5.one hcm, hb3] at hb5
          cases hb5
    · -- it can be made: the recipe
      have hrvn : rv ≠ .non := fun z => by
        obtain ⟨_, _, e, _⟩ := hrec
        rw [z] at e; cases e
      have hWG : Good W := ⟨fun x hx => (hWg x hx).1, fun x hx => (hWg x hx).2⟩
      have hWmG : Good (W.map (Tm.map f)) := ⟨fun x hx => by
        obtain ⟨u, hu, rfl⟩ := List.mem_map.mp hx
        exact WF.map (fun x hx => hfok x hx) (hWg u hu).1, fun x hx => by
        obtain ⟨u, hu, rfl⟩ := List.mem_map.mp hx
        rw [map_depth']
        exact (hWg u hu).2⟩
      have hWml : (W.map (Tm.map f))[(W.map (Tm.map f)).length - 1]? = some (t.map f) := by
        rw [List.length_map, List.getElem?_map, hWl]; rfl
      refine ⟨_, rfl, rfl, _, rfl, ifF (decide_eq_false hrvn) ?_⟩
      refine ⟨_, rfl, _, rfl, o, _, rv, S, _, t.map f, rfl, hHo16.same k17, hrec, hrun.map, hWmG, hS6, hWml, fun v1 H18 k18 hv1 => ?_⟩
      refine ⟨_, rfl, v1, vm, rfl, ?_, fun H19 k19 => ⟨_, rfl, iteF ?_⟩⟩
      · exact sm_tm 7 (by omega) hv1 (hvm16.same (k17.trans k18))
      obtain ⟨rp, ru, er, hrp, hrs⟩ := hrec
      refine ⟨_, rfl, _, rfl, r, F, rv, S, W, t, rfl, hHr16.same (k17.trans (k18.trans k19)), ⟨rp, ru, er, (k18.trans k19) _ _ hrp, StVs.mono (sTups (k18.trans k19)) hrs⟩, hrun, hWG, hS6, hWl, fun v2 H20 k20 hv2 => ?_⟩
      refine ⟨_, rfl, v2, y, rfl, ?_, fun H21 k21 => ⟨_, rfl, iteF ⟨_, _, _, _, rfl, k1116.trans (k17.trans (k18.trans (k19.trans (k20.trans k21))))⟩⟩⟩
      exact sm_tm 7 (by omega) hv2 (hty16.same (k17.trans (k18.trans (k19.trans k20))))
  · exact q _
end
end
end Kt
namespace Kt
open PySem PySem.Spec PyProof.Rows L2
/-! ### the defs and facts that the head tells -/
def d_is_integer : He.DefD := ⟨("is_integer", none), "is_integer", "is_integer", defArgs s_is_integer, defBody s_is_integer, defScope s_is_integer, [], []⟩
def d_is_between : He.DefD := ⟨("is_between", none), "is_between", "is_between", defArgs s_is_between, defBody s_is_between, defScope s_is_between, [], []⟩
def d_is_name : He.DefD := ⟨("is_name", none), "is_name", "is_name", defArgs s_is_name, defBody s_is_name, defScope s_is_name, [], []⟩
def d_is_row : He.DefD := ⟨("is_row", none), "is_row", "is_row", defArgs s_is_row, defBody s_is_row, defScope s_is_row, [], []⟩
def d_is_name_dict : He.DefD := ⟨("is_name_dict", none), "is_name_dict", "is_name_dict", defArgs s_is_name_dict, defBody s_is_name_dict, defScope s_is_name_dict, [], []⟩
def d_is_leaf : He.DefD := ⟨("is_leaf", none), "is_leaf", "is_leaf", defArgs s_is_leaf, defBody s_is_leaf, defScope s_is_leaf, [], []⟩
def d_measure : He.DefD := ⟨("measure", none), "measure", "measure", defArgs s_measure, defBody s_measure, defScope s_measure, [], []⟩
def d_has_form : He.DefD := ⟨("has_form", none), "has_form", "has_form", defArgs s_has_form, defBody s_has_form, defScope s_has_form, [], []⟩
def d_is_term : He.DefD := ⟨("is_term", none), "is_term", "is_term", defArgs s_is_term, defBody s_is_term, defScope s_is_term, [], []⟩
def d_check_term : He.DefD := ⟨("check_term", none), "check_term", "check_term", defArgs s_check_term, defBody s_check_term, defScope s_check_term, [], []⟩
def d_replaced : He.DefD := ⟨("replaced", none), "replaced", "replaced", defArgs s_replaced, defBody s_replaced, defScope s_replaced, [], []⟩
def d_renamed : He.DefD := ⟨("renamed", none), "renamed", "renamed", defArgs s_renamed, defBody s_renamed, defScope s_renamed, [], []⟩
def d_spelled : He.DefD := ⟨("spelled", none), "spelled", "spelled", defArgs s_spelled, defBody s_spelled, defScope s_spelled, [], []⟩
def d_by_wordings : He.DefD := ⟨("by_wordings", none), "by_wordings", "by_wordings", defArgs s_by_wordings, defBody s_by_wordings, defScope s_by_wordings, [], []⟩
def d_good_hearing : He.DefD := ⟨("good_hearing", none), "good_hearing", "good_hearing", defArgs s_good_hearing, defBody s_good_hearing, defScope s_good_hearing, [], []⟩
def d_pieces : He.DefD := ⟨("pieces", none), "pieces", "pieces", defArgs s_pieces, defBody s_pieces, defScope s_pieces, [], []⟩
def d_is_built : He.DefD := ⟨("is_built", none), "is_built", "is_built", defArgs s_is_built, defBody s_is_built, defScope s_is_built, [], []⟩
def d_openings : He.DefD := ⟨("openings", none), "openings", "openings", defArgs s_openings, defBody s_openings, defScope s_openings, [], []⟩
def d_least_closed : He.DefD := ⟨("least_closed", none), "least_closed", "least_closed", defArgs s_least_closed, defBody s_least_closed, defScope s_least_closed, [], []⟩
def d_can_make : He.DefD := ⟨("can_make", none), "can_make", "can_make", defArgs s_can_make, defBody s_can_make, defScope s_can_make, [], []⟩
def d_opened : He.DefD := ⟨("opened", none), "opened", "opened", defArgs s_opened, defBody s_opened, defScope s_opened, [], []⟩
def d_closed_paper : He.DefD := ⟨("closed_paper", none), "closed_paper", "closed_paper", defArgs s_closed_paper, defBody s_closed_paper, defScope s_closed_paper, [], []⟩
def d_is_closed_paper : He.DefD := ⟨("is_closed_paper", none), "is_closed_paper", "is_closed_paper", defArgs s_is_closed_paper, defBody s_is_closed_paper, defScope s_is_closed_paper, [], []⟩
def d_is_recipe_step : He.DefD := ⟨("is_recipe_step", none), "is_recipe_step", "is_recipe_step", defArgs s_is_recipe_step, defBody s_is_recipe_step, defScope s_is_recipe_step, [], []⟩
def d_is_recipe : He.DefD := ⟨("is_recipe", none), "is_recipe", "is_recipe", defArgs s_is_recipe, defBody s_is_recipe, defScope s_is_recipe, [], []⟩
def d_check_recipe : He.DefD := ⟨("check_recipe", none), "check_recipe", "check_recipe", defArgs s_check_recipe, defBody s_check_recipe, defScope s_check_recipe, [], []⟩
def d_built_term : He.DefD := ⟨("built_term", none), "built_term", "built_term", defArgs s_built_term, defBody s_built_term, defScope s_built_term, [], []⟩
def d_opened_term : He.DefD := ⟨("opened_term", none), "opened_term", "opened_term", defArgs s_opened_term, defBody s_opened_term, defScope s_opened_term, [], []⟩
def d_played_step : He.DefD := ⟨("played_step", none), "played_step", "played_step", defArgs s_played_step, defBody s_played_step, defScope s_played_step, [], []⟩
def d_played : He.DefD := ⟨("played", none), "played", "played", defArgs s_played, defBody s_played, defScope s_played, [], []⟩
def d_pruned : He.DefD := ⟨("pruned", none), "pruned", "pruned", defArgs s_pruned, defBody s_pruned, defScope s_pruned, [], []⟩
def d_recipe_for : He.DefD := ⟨("recipe_for", none), "recipe_for", "recipe_for", defArgs s_recipe_for, defBody s_recipe_for, defScope s_recipe_for, [], []⟩
def d_law_bag : He.DefD := ⟨("_law_bag", none), "_law_bag", "_law_bag", defArgs s_law_bag, defBody s_law_bag, defScope s_law_bag, [], []⟩
def d_law_draw : He.DefD := ⟨("_law_draw", none), "_law_draw", "_law_draw", defArgs s_law_draw, defBody s_law_draw, defScope s_law_draw, [], []⟩
def d_law_same : He.DefD := ⟨("_law_same", none), "_law_same", "_law_same", defArgs s_law_same, defBody s_law_same, defScope s_law_same, [], []⟩
def d_law_names : He.DefD := ⟨("_law_names", none), "_law_names", "_law_names", defArgs s_law_names, defBody s_law_names, defScope s_law_names, [], []⟩
def d_law_pick : He.DefD := ⟨("_law_pick", none), "_law_pick", "_law_pick", defArgs s_law_pick, defBody s_law_pick, defScope s_law_pick, [], []⟩
def d_law_leaf : He.DefD := ⟨("_law_leaf", none), "_law_leaf", "_law_leaf", defArgs s_law_leaf, defBody s_law_leaf, defScope s_law_leaf, [], []⟩
def d_law_pattern : He.DefD := ⟨("_law_pattern", none), "_law_pattern", "_law_pattern", defArgs s_law_pattern, defBody s_law_pattern, defScope s_law_pattern, [], []⟩
def d_law_term : He.DefD := ⟨("_law_term", none), "_law_term", "_law_term", defArgs s_law_term, defBody s_law_term, defScope s_law_term, [], []⟩
def d_law_parts : He.DefD := ⟨("_law_parts", none), "_law_parts", "_law_parts", defArgs s_law_parts, defBody s_law_parts, defScope s_law_parts, [], []⟩
def d_law_hearing : He.DefD := ⟨("_law_hearing", none), "_law_hearing", "_law_hearing", defArgs s_law_hearing, defBody s_law_hearing, defScope s_law_hearing, [], []⟩
def d_law_spelled : He.DefD := ⟨("_law_spelled", none), "_law_spelled", "_law_spelled", defArgs s_law_spelled, defBody s_law_spelled, defScope s_law_spelled, [], []⟩
def d_law_ascending : He.DefD := ⟨("_law_ascending", none), "_law_ascending", "_law_ascending", defArgs s_law_ascending, defBody s_law_ascending, defScope s_law_ascending, [], []⟩
def d_law : He.DefD := ⟨("law", none), "law", "law", defArgs s_law, defBody s_law, defScope s_law, [], []⟩
def d_Cook_init : He.DefD := ⟨("Cook", some "__init__"), "__init__", "Cook.__init__", defArgs s_Cook_init, defBody s_Cook_init, defScope s_Cook_init, [], []⟩
def d_Cook_add : He.DefD := ⟨("Cook", some "add"), "add", "Cook.add", defArgs s_Cook_add, defBody s_Cook_add, defScope s_Cook_add, [], []⟩
def d_Cook_keep : He.DefD := ⟨("Cook", some "keep"), "keep", "Cook.keep", defArgs s_Cook_keep, defBody s_Cook_keep, defScope s_Cook_keep, [], []⟩
def d_Cook_unlock : He.DefD := ⟨("Cook", some "unlock"), "unlock", "Cook.unlock", defArgs s_Cook_unlock, defBody s_Cook_unlock, defScope s_Cook_unlock, [], []⟩
def d_Cook_make : He.DefD := ⟨("Cook", some "make"), "make", "Cook.make", defArgs s_Cook_make, defBody s_Cook_make, defScope s_Cook_make, [], []⟩
def d_Cook_build : He.DefD := ⟨("Cook", some "build"), "build", "Cook.build", defArgs s_Cook_build, defBody s_Cook_build, defScope s_Cook_build, [], []⟩
def fn1 : List He.DefD := [d_is_integer, d_is_between, d_is_name, d_is_row, d_is_name_dict, d_is_leaf, d_measure, d_has_form, d_is_term, d_check_term, d_replaced, d_renamed, d_spelled, d_by_wordings, d_good_hearing, d_pieces, d_is_built, d_openings, d_least_closed, d_can_make]
def fn2 : List He.DefD := [d_opened, d_closed_paper, d_is_closed_paper, d_is_recipe_step, d_is_recipe, d_check_recipe, d_built_term, d_opened_term, d_played_step, d_played, d_pruned, d_recipe_for, d_law_bag, d_law_draw, d_law_same, d_law_names, d_law_pick, d_law_leaf, d_law_pattern, d_law_term]
def fn3 : List He.DefD := [d_law_parts, d_law_hearing, d_law_spelled, d_law_ascending, d_law, d_Cook_init, d_Cook_add, d_Cook_keep, d_Cook_unlock, d_Cook_make, d_Cook_build]
def fn : List He.DefD := fn1 ++ (fn2 ++ fn3)
def fa1 : List He.Fa := [.glo "is_integer", .glo "is_between", .glo "is_name", .glo "is_row", .glo "is_name_dict", .glo "is_leaf", .glo "measure", .glo "has_form", .glo "is_term", .glo "check_term", .glo "replaced", .glo "renamed", .glo "spelled", .glo "by_wordings", .glo "good_hearing", .glo "pieces", .glo "is_built", .glo "openings", .glo "least_closed", .glo "can_make", .glo "opened", .glo "closed_paper", .glo "is_closed_paper", .glo "is_recipe_step", .glo "is_recipe"]
def fa2 : List He.Fa := [.glo "check_recipe", .glo "built_term", .glo "opened_term", .glo "played_step", .glo "played", .glo "pruned", .glo "recipe_for", .glo "_law_bag", .glo "_law_draw", .glo "_law_same", .glo "_law_names", .glo "_law_pick", .glo "_law_leaf", .glo "_law_pattern", .glo "_law_term", .glo "_law_parts", .glo "_law_hearing", .glo "_law_spelled", .glo "_law_ascending", .glo "law", .glo "Cook", .glo "LENGTHS", .glo "ARITIES", .glo "NAMED"]
def fa3 : List He.Fa := [.free "isinstance", .free "int", .free "bool", .free "str", .free "list", .free "tuple", .free "dict", .free "len", .free "all", .free "any", .free "sum", .free "max", .free "enumerate", .free "sorted", .free "range"]
def fa4 : List He.Fa := [.int "MOST_LETTERS" 8, .int "MOST_NAMES" 40, .int "MOST_DEPTH" 12, .int "MOST_HEARD" 40, .int "MOST_STEPS" 60000]
def fa5 : List He.Fa := [.str "SMALL" "abcdefghijklmnopqrstuvwxyz", .str "PAIR" "pair", .str "BOX" "box", .str "HALF" "half", .str "SHUT" "shut", .str "MARK" "mark", .str "MIX" "mix", .str "VAR" "var", .str "AND" " & ", .str "HEARD" "heard", .str "LEFT" "left", .str "RIGHT" "right", .str "UNBOX" "unbox", .str "UNSHUT" "unshut", .str "READ" "read", .str "CHECK" "check"]
def fa6 : List He.Fa := [.cls "Cook", .mkr "Cook", .noat "Cook" "rows", .noat "Cook" "found", .noat "Cook" "made", .meth "Cook" "add", .meth "Cook" "keep", .meth "Cook" "unlock", .meth "Cook" "make", .meth "Cook" "build"]
def fa : List He.Fa := fa1 ++ (fa2 ++ (fa3 ++ (fa4 ++ (fa5 ++ fa6))))
def kvL : List (PySem.Str × He.Dv) := [("pair", .int 3), ("box", .int 3), ("half", .int 2), ("shut", .int 3), ("mark", .int 3), ("mix", .int 2)]
def kvA : List (PySem.Str × He.Dv) := [("pair", .int 2), ("box", .int 2), ("half", .int 1), ("shut", .int 2), ("mark", .int 2), ("mix", .int 1), ("left", .int 1), ("right", .int 1), ("unbox", .int 2), ("unshut", .int 2), ("read", .int 1), ("check", .int 2)]
def ts : List He.Tab := [((fun K => He.ga K "LENGTHS"), ["pair", "box", "half", "shut", "mark", "mix"]), ((fun K => He.ga K "ARITIES"), ["pair", "box", "half", "shut", "mark", "mix", "left", "right", "unbox", "unshut", "read", "check"])]
def ex (K : PySem.W.Frag) : Bool := He.tupB K "NAMED" [.str "half", .str "shut", .str "mark"] && (He.valsB K (He.ga K "LENGTHS") kvL && He.valsB K (He.ga K "ARITIES") kvA)
abbrev R : PySem.W.OpenRow := PySem.W.OpenLaw.row PySem.Challenge.rw_sealedtalk_k14_whole_hearings_renamed
abbrev hk : PySem.W.Hook := He.hookX 5 fa fn ts [] ex
def ob (s : PySem.W.SharedT) : He.AlX := He.obsX 5 fa fn ts [] ex (HandSHeadRun.getT s)
theorem ob_eq (s : PySem.W.SharedT) : ob s = hk.obs s.abs := He.obsX_eq (HandSHeadRun.getT_eq s)
def nms0 : List PySem.Str := ["SMALL", "MOST_LETTERS", "is_integer", "is_between", "is_name", "is_row", "is_name_dict", "TalkError", "BadTerm", "BadNames", "BadHearing", "BadRecipe", "PAIR", "BOX", "HALF", "SHUT", "MARK", "MIX", "VAR", "LENGTHS", "NAMED", "MOST_NAMES", "MOST_DEPTH", "is_leaf", "measure", "has_form", "is_term", "check_term", "replaced", "renamed"]
def nms1 : List PySem.Str := ["AND", "spelled", "by_wordings", "MOST_HEARD", "good_hearing", "pieces", "is_built", "openings", "least_closed", "can_make", "opened", "closed_paper", "is_closed_paper", "HEARD", "LEFT", "RIGHT", "UNBOX", "UNSHUT", "READ", "CHECK", "ARITIES", "MOST_STEPS", "is_recipe_step", "is_recipe", "check_recipe", "built_term", "opened_term", "played_step", "played", "pruned"]
def nms2 : List PySem.Str := ["Cook", "recipe_for", "_law_bag", "_law_draw", "_law_same", "_law_names", "_law_pick", "_law_leaf", "_law_pattern", "_law_term", "_law_parts", "_law_hearing", "_law_spelled", "_law_ascending"]
def nms : List PySem.Str := nms0 ++ nms1 ++ nms2
theorem run_f (w : World) : HandSHeadRun.RunEq R (PySem.W.view R.prog [81]) hk ob 4000 nms (w.withFollow "special-get-raises" false) := by
  intro os
  kernel_rfl
theorem run_t (w : World) : HandSHeadRun.RunEq R (PySem.W.view R.prog [81]) hk ob 4000 nms (w.withFollow "special-get-raises" true) := by
  intro os
  kernel_rfl
theorem run (w : World) : HandSHeadRun.RunEq R (PySem.W.view R.prog [81]) hk ob 4000 nms w := PySem.W.byRow2 "special-get-raises" (P := fun w => HandSHeadRun.RunEq R (PySem.W.view R.prog [81]) hk ob 4000 nms w) run_f run_t w
end Kt
/-! the end. -/
namespace Kt
open PySem PySem.Spec PyProof.Rows L2
open Tm
theorem kvA_mem {x : PySem.Str} {k : Int} (h : (x, k) ∈ ([("pair", 2), ("box", 2), ("half", 1), ("shut", 2), ("mark", 2), ("mix", 1), ("left", 1), ("right", 1), ("unbox", 2), ("unshut", 2), ("read", 1), ("check", 2)] : List (PySem.Str × Int))) : ((x, .int k) : PySem.Str × He.Dv) ∈ kvA := by
  have : kvA = ([("pair", 2), ("box", 2), ("half", 1), ("shut", 2), ("mark", 2), ("mix", 1), ("left", 1), ("right", 1), ("unbox", 2), ("unshut", 2), ("read", 1), ("check", 2)] : List (PySem.Str × Int)).map fun p => (p.1, .int p.2) := rfl
  rw [this]
  exact List.mem_map.mpr ⟨(x, k), h, rfl⟩
section
variable {w : World} {K : PySem.W.Frag} {h : Heap} {mg : PySem.Str → Option Value}
theorem gs_of (X : K.In h) (G : h.Ns mainGlobals mg) (c : He.SaysX fa fn ts [] ex w h K) : Gs K mg w := by
  have d := c.t.d
  have fr : ∀ (i : Nat) (x : PySem.Str), fa[i]? = some (.free x) → mg x = none := fun i x e => He.free_ok X G (d.fact i e)
  have it : ∀ (i : Nat) (x : PySem.Str) (j : Int), fa[i]? = some (.int x j) → GV mg x (.int j) := fun i x j e => let ⟨t, ht⟩ := He.int_ok X G (d.fact i e); ⟨_, ht, ⟨t, rfl⟩⟩
  have st : ∀ (i : Nat) (x z : PySem.Str), fa[i]? = some (.str x z) → GV mg x (.str z) := fun i x z e => let ⟨t, ht⟩ := He.str_ok X G (d.fact i e); ⟨_, ht, ⟨t, rfl⟩⟩
  have gl : ∀ (i : Nat) (x : PySem.Str), fa[i]? = some (.glo x) → GV mg x (.ref (He.ga K x)) := fun i x e => ⟨_, He.glo_ok X G (d.fact i e), rfl⟩
  obtain ⟨m1, m2⟩ := He.ba (show (He.tupB K "NAMED" [.str "half", .str "shut", .str "mark"] && (He.valsB K (He.ga K "LENGTHS") kvL && He.valsB K (He.ga K "ARITIES") kvA)) = true from c.more)
  obtain ⟨m2, m3⟩ := He.ba m2
  obtain ⟨es1, n1, t1⟩ := c.t.tab 0 (t := ((fun K => He.ga K "LENGTHS"), ["pair", "box", "half", "shut", "mark", "mix"])) rfl
  obtain ⟨es2, n2, t2⟩ := c.t.tab 1 (t := ((fun K => He.ga K "ARITIES"), ["pair", "box", "half", "shut", "mark", "mix", "left", "right", "unbox", "unshut", "read", "check"])) rfl
  refine {
    isinstance := fr 49 _ rfl
    int := fr 50 _ rfl
    bool := fr 51 _ rfl
    str := fr 52 _ rfl
    list := fr 53 _ rfl
    tuple := fr 54 _ rfl
    dict := fr 55 _ rfl
    len := fr 56 _ rfl
    all := fr 57 _ rfl
    any := fr 58 _ rfl
    sum := fr 59 _ rfl
    max := fr 60 _ rfl
    enumerate := fr 61 _ rfl
    sorted := fr 62 _ rfl
    range := fr 63 _ rfl
    MOST_LETTERS := it 64 _ _ rfl
    MOST_NAMES := it 65 _ _ rfl
    MOST_DEPTH := it 66 _ _ rfl
    MOST_HEARD := it 67 _ _ rfl
    MOST_STEPS := it 68 _ _ rfl
    SMALL := st 69 _ _ rfl
    PAIR := st 70 _ _ rfl
    BOX := st 71 _ _ rfl
    HALF := st 72 _ _ rfl
    SHUT := st 73 _ _ rfl
    MARK := st 74 _ _ rfl
    MIX := st 75 _ _ rfl
    VAR := st 76 _ _ rfl
    AND := st 77 _ _ rfl
    HEARD := st 78 _ _ rfl
    LEFT := st 79 _ _ rfl
    RIGHT := st 80 _ _ rfl
    UNBOX := st 81 _ _ rfl
    UNSHUT := st 82 _ _ rfl
    READ := st 83 _ _ rfl
    CHECK := st 84 _ _ rfl
    NAMED := ⟨_, gl 48 _ rfl, fun H => He.tupB_ok m1 H⟩
    LENGTHS := ⟨_, es1, n1, gl 46 _ rfl, t1, fun g => ?_, fun g => ?_⟩
    ARITIES := ⟨_, es2, n2, gl 47 _ rfl, t2, fun x k hk => ?_⟩ }
  · cases g
    · exact He.valsB_ok m2 (q := ("half", .int 2)) (by simp [kvL])
    · exact He.valsB_ok m2 (q := ("mix", .int 2)) (by simp [kvL])
  · cases g
    · exact He.valsB_ok m2 (q := ("pair", .int 3)) (by simp [kvL])
    · exact He.valsB_ok m2 (q := ("box", .int 3)) (by simp [kvL])
    · exact He.valsB_ok m2 (q := ("shut", .int 3)) (by simp [kvL])
    · exact He.valsB_ok m2 (q := ("mark", .int 3)) (by simp [kvL])
  · exact He.valsB_ok m3 (q := (x, .int k)) (kvA_mem hk)
theorem df_is_integer (X : K.In h) (G : h.Ns mainGlobals mg) (c : He.SaysX fa fn ts [] ex w h K) : Dfn K mg "is_integer" s_is_integer := let ⟨fd, F⟩ := c.t.d.def_ 0 (d := d_is_integer) rfl; ⟨_, fd, F, He.glo_ok X G (c.t.d.fact 0 (f := .glo "is_integer") rfl)⟩
theorem df_is_between (X : K.In h) (G : h.Ns mainGlobals mg) (c : He.SaysX fa fn ts [] ex w h K) : Dfn K mg "is_between" s_is_between := let ⟨fd, F⟩ := c.t.d.def_ 1 (d := d_is_between) rfl; ⟨_, fd, F, He.glo_ok X G (c.t.d.fact 1 (f := .glo "is_between") rfl)⟩
theorem df_is_name (X : K.In h) (G : h.Ns mainGlobals mg) (c : He.SaysX fa fn ts [] ex w h K) : Dfn K mg "is_name" s_is_name := let ⟨fd, F⟩ := c.t.d.def_ 2 (d := d_is_name) rfl; ⟨_, fd, F, He.glo_ok X G (c.t.d.fact 2 (f := .glo "is_name") rfl)⟩
theorem df_is_row (X : K.In h) (G : h.Ns mainGlobals mg) (c : He.SaysX fa fn ts [] ex w h K) : Dfn K mg "is_row" s_is_row := let ⟨fd, F⟩ := c.t.d.def_ 3 (d := d_is_row) rfl; ⟨_, fd, F, He.glo_ok X G (c.t.d.fact 3 (f := .glo "is_row") rfl)⟩
theorem df_is_name_dict (X : K.In h) (G : h.Ns mainGlobals mg) (c : He.SaysX fa fn ts [] ex w h K) : Dfn K mg "is_name_dict" s_is_name_dict := let ⟨fd, F⟩ := c.t.d.def_ 4 (d := d_is_name_dict) rfl; ⟨_, fd, F, He.glo_ok X G (c.t.d.fact 4 (f := .glo "is_name_dict") rfl)⟩
theorem df_is_leaf (X : K.In h) (G : h.Ns mainGlobals mg) (c : He.SaysX fa fn ts [] ex w h K) : Dfn K mg "is_leaf" s_is_leaf := let ⟨fd, F⟩ := c.t.d.def_ 5 (d := d_is_leaf) rfl; ⟨_, fd, F, He.glo_ok X G (c.t.d.fact 5 (f := .glo "is_leaf") rfl)⟩
theorem df_measure (X : K.In h) (G : h.Ns mainGlobals mg) (c : He.SaysX fa fn ts [] ex w h K) : Dfn K mg "measure" s_measure := let ⟨fd, F⟩ := c.t.d.def_ 6 (d := d_measure) rfl; ⟨_, fd, F, He.glo_ok X G (c.t.d.fact 6 (f := .glo "measure") rfl)⟩
theorem df_has_form (X : K.In h) (G : h.Ns mainGlobals mg) (c : He.SaysX fa fn ts [] ex w h K) : Dfn K mg "has_form" s_has_form := let ⟨fd, F⟩ := c.t.d.def_ 7 (d := d_has_form) rfl; ⟨_, fd, F, He.glo_ok X G (c.t.d.fact 7 (f := .glo "has_form") rfl)⟩
theorem df_is_term (X : K.In h) (G : h.Ns mainGlobals mg) (c : He.SaysX fa fn ts [] ex w h K) : Dfn K mg "is_term" s_is_term := let ⟨fd, F⟩ := c.t.d.def_ 8 (d := d_is_term) rfl; ⟨_, fd, F, He.glo_ok X G (c.t.d.fact 8 (f := .glo "is_term") rfl)⟩
theorem df_check_term (X : K.In h) (G : h.Ns mainGlobals mg) (c : He.SaysX fa fn ts [] ex w h K) : Dfn K mg "check_term" s_check_term := let ⟨fd, F⟩ := c.t.d.def_ 9 (d := d_check_term) rfl; ⟨_, fd, F, He.glo_ok X G (c.t.d.fact 9 (f := .glo "check_term") rfl)⟩
theorem df_replaced (X : K.In h) (G : h.Ns mainGlobals mg) (c : He.SaysX fa fn ts [] ex w h K) : Dfn K mg "replaced" s_replaced := let ⟨fd, F⟩ := c.t.d.def_ 10 (d := d_replaced) rfl; ⟨_, fd, F, He.glo_ok X G (c.t.d.fact 10 (f := .glo "replaced") rfl)⟩
theorem df_renamed (X : K.In h) (G : h.Ns mainGlobals mg) (c : He.SaysX fa fn ts [] ex w h K) : Dfn K mg "renamed" s_renamed := let ⟨fd, F⟩ := c.t.d.def_ 11 (d := d_renamed) rfl; ⟨_, fd, F, He.glo_ok X G (c.t.d.fact 11 (f := .glo "renamed") rfl)⟩
theorem df_spelled (X : K.In h) (G : h.Ns mainGlobals mg) (c : He.SaysX fa fn ts [] ex w h K) : Dfn K mg "spelled" s_spelled := let ⟨fd, F⟩ := c.t.d.def_ 12 (d := d_spelled) rfl; ⟨_, fd, F, He.glo_ok X G (c.t.d.fact 12 (f := .glo "spelled") rfl)⟩
theorem df_by_wordings (X : K.In h) (G : h.Ns mainGlobals mg) (c : He.SaysX fa fn ts [] ex w h K) : Dfn K mg "by_wordings" s_by_wordings := let ⟨fd, F⟩ := c.t.d.def_ 13 (d := d_by_wordings) rfl; ⟨_, fd, F, He.glo_ok X G (c.t.d.fact 13 (f := .glo "by_wordings") rfl)⟩
theorem df_good_hearing (X : K.In h) (G : h.Ns mainGlobals mg) (c : He.SaysX fa fn ts [] ex w h K) : Dfn K mg "good_hearing" s_good_hearing := let ⟨fd, F⟩ := c.t.d.def_ 14 (d := d_good_hearing) rfl; ⟨_, fd, F, He.glo_ok X G (c.t.d.fact 14 (f := .glo "good_hearing") rfl)⟩
theorem df_pieces (X : K.In h) (G : h.Ns mainGlobals mg) (c : He.SaysX fa fn ts [] ex w h K) : Dfn K mg "pieces" s_pieces := let ⟨fd, F⟩ := c.t.d.def_ 15 (d := d_pieces) rfl; ⟨_, fd, F, He.glo_ok X G (c.t.d.fact 15 (f := .glo "pieces") rfl)⟩
theorem df_is_built (X : K.In h) (G : h.Ns mainGlobals mg) (c : He.SaysX fa fn ts [] ex w h K) : Dfn K mg "is_built" s_is_built := let ⟨fd, F⟩ := c.t.d.def_ 16 (d := d_is_built) rfl; ⟨_, fd, F, He.glo_ok X G (c.t.d.fact 16 (f := .glo "is_built") rfl)⟩
theorem df_openings (X : K.In h) (G : h.Ns mainGlobals mg) (c : He.SaysX fa fn ts [] ex w h K) : Dfn K mg "openings" s_openings := let ⟨fd, F⟩ := c.t.d.def_ 17 (d := d_openings) rfl; ⟨_, fd, F, He.glo_ok X G (c.t.d.fact 17 (f := .glo "openings") rfl)⟩
theorem df_least_closed (X : K.In h) (G : h.Ns mainGlobals mg) (c : He.SaysX fa fn ts [] ex w h K) : Dfn K mg "least_closed" s_least_closed := let ⟨fd, F⟩ := c.t.d.def_ 18 (d := d_least_closed) rfl; ⟨_, fd, F, He.glo_ok X G (c.t.d.fact 18 (f := .glo "least_closed") rfl)⟩
theorem df_can_make (X : K.In h) (G : h.Ns mainGlobals mg) (c : He.SaysX fa fn ts [] ex w h K) : Dfn K mg "can_make" s_can_make := let ⟨fd, F⟩ := c.t.d.def_ 19 (d := d_can_make) rfl; ⟨_, fd, F, He.glo_ok X G (c.t.d.fact 19 (f := .glo "can_make") rfl)⟩
theorem df_opened (X : K.In h) (G : h.Ns mainGlobals mg) (c : He.SaysX fa fn ts [] ex w h K) : Dfn K mg "opened" s_opened := let ⟨fd, F⟩ := c.t.d.def_ 20 (d := d_opened) rfl; ⟨_, fd, F, He.glo_ok X G (c.t.d.fact 20 (f := .glo "opened") rfl)⟩
theorem df_closed_paper (X : K.In h) (G : h.Ns mainGlobals mg) (c : He.SaysX fa fn ts [] ex w h K) : Dfn K mg "closed_paper" s_closed_paper := let ⟨fd, F⟩ := c.t.d.def_ 21 (d := d_closed_paper) rfl; ⟨_, fd, F, He.glo_ok X G (c.t.d.fact 21 (f := .glo "closed_paper") rfl)⟩
theorem df_is_closed_paper (X : K.In h) (G : h.Ns mainGlobals mg) (c : He.SaysX fa fn ts [] ex w h K) : Dfn K mg "is_closed_paper" s_is_closed_paper := let ⟨fd, F⟩ := c.t.d.def_ 22 (d := d_is_closed_paper) rfl; ⟨_, fd, F, He.glo_ok X G (c.t.d.fact 22 (f := .glo "is_closed_paper") rfl)⟩
theorem df_is_recipe_step (X : K.In h) (G : h.Ns mainGlobals mg) (c : He.SaysX fa fn ts [] ex w h K) : Dfn K mg "is_recipe_step" s_is_recipe_step := let ⟨fd, F⟩ := c.t.d.def_ 23 (d := d_is_recipe_step) rfl; ⟨_, fd, F, He.glo_ok X G (c.t.d.fact 23 (f := .glo "is_recipe_step") rfl)⟩
theorem df_is_recipe (X : K.In h) (G : h.Ns mainGlobals mg) (c : He.SaysX fa fn ts [] ex w h K) : Dfn K mg "is_recipe" s_is_recipe := let ⟨fd, F⟩ := c.t.d.def_ 24 (d := d_is_recipe) rfl; ⟨_, fd, F, He.glo_ok X G (c.t.d.fact 24 (f := .glo "is_recipe") rfl)⟩
theorem df_check_recipe (X : K.In h) (G : h.Ns mainGlobals mg) (c : He.SaysX fa fn ts [] ex w h K) : Dfn K mg "check_recipe" s_check_recipe := let ⟨fd, F⟩ := c.t.d.def_ 25 (d := d_check_recipe) rfl; ⟨_, fd, F, He.glo_ok X G (c.t.d.fact 25 (f := .glo "check_recipe") rfl)⟩
theorem df_built_term (X : K.In h) (G : h.Ns mainGlobals mg) (c : He.SaysX fa fn ts [] ex w h K) : Dfn K mg "built_term" s_built_term := let ⟨fd, F⟩ := c.t.d.def_ 26 (d := d_built_term) rfl; ⟨_, fd, F, He.glo_ok X G (c.t.d.fact 26 (f := .glo "built_term") rfl)⟩
theorem df_opened_term (X : K.In h) (G : h.Ns mainGlobals mg) (c : He.SaysX fa fn ts [] ex w h K) : Dfn K mg "opened_term" s_opened_term := let ⟨fd, F⟩ := c.t.d.def_ 27 (d := d_opened_term) rfl; ⟨_, fd, F, He.glo_ok X G (c.t.d.fact 27 (f := .glo "opened_term") rfl)⟩
theorem df_played_step (X : K.In h) (G : h.Ns mainGlobals mg) (c : He.SaysX fa fn ts [] ex w h K) : Dfn K mg "played_step" s_played_step := let ⟨fd, F⟩ := c.t.d.def_ 28 (d := d_played_step) rfl; ⟨_, fd, F, He.glo_ok X G (c.t.d.fact 28 (f := .glo "played_step") rfl)⟩
theorem df_played (X : K.In h) (G : h.Ns mainGlobals mg) (c : He.SaysX fa fn ts [] ex w h K) : Dfn K mg "played" s_played := let ⟨fd, F⟩ := c.t.d.def_ 29 (d := d_played) rfl; ⟨_, fd, F, He.glo_ok X G (c.t.d.fact 29 (f := .glo "played") rfl)⟩
theorem df_pruned (X : K.In h) (G : h.Ns mainGlobals mg) (c : He.SaysX fa fn ts [] ex w h K) : Dfn K mg "pruned" s_pruned := let ⟨fd, F⟩ := c.t.d.def_ 30 (d := d_pruned) rfl; ⟨_, fd, F, He.glo_ok X G (c.t.d.fact 30 (f := .glo "pruned") rfl)⟩
theorem df_recipe_for (X : K.In h) (G : h.Ns mainGlobals mg) (c : He.SaysX fa fn ts [] ex w h K) : Dfn K mg "recipe_for" s_recipe_for := let ⟨fd, F⟩ := c.t.d.def_ 31 (d := d_recipe_for) rfl; ⟨_, fd, F, He.glo_ok X G (c.t.d.fact 31 (f := .glo "recipe_for") rfl)⟩
theorem df_law_bag (X : K.In h) (G : h.Ns mainGlobals mg) (c : He.SaysX fa fn ts [] ex w h K) : Dfn K mg "_law_bag" s_law_bag := let ⟨fd, F⟩ := c.t.d.def_ 32 (d := d_law_bag) rfl; ⟨_, fd, F, He.glo_ok X G (c.t.d.fact 32 (f := .glo "_law_bag") rfl)⟩
theorem df_law_draw (X : K.In h) (G : h.Ns mainGlobals mg) (c : He.SaysX fa fn ts [] ex w h K) : Dfn K mg "_law_draw" s_law_draw := let ⟨fd, F⟩ := c.t.d.def_ 33 (d := d_law_draw) rfl; ⟨_, fd, F, He.glo_ok X G (c.t.d.fact 33 (f := .glo "_law_draw") rfl)⟩
theorem df_law_same (X : K.In h) (G : h.Ns mainGlobals mg) (c : He.SaysX fa fn ts [] ex w h K) : Dfn K mg "_law_same" s_law_same := let ⟨fd, F⟩ := c.t.d.def_ 34 (d := d_law_same) rfl; ⟨_, fd, F, He.glo_ok X G (c.t.d.fact 34 (f := .glo "_law_same") rfl)⟩
theorem df_law_names (X : K.In h) (G : h.Ns mainGlobals mg) (c : He.SaysX fa fn ts [] ex w h K) : Dfn K mg "_law_names" s_law_names := let ⟨fd, F⟩ := c.t.d.def_ 35 (d := d_law_names) rfl; ⟨_, fd, F, He.glo_ok X G (c.t.d.fact 35 (f := .glo "_law_names") rfl)⟩
theorem df_law_pick (X : K.In h) (G : h.Ns mainGlobals mg) (c : He.SaysX fa fn ts [] ex w h K) : Dfn K mg "_law_pick" s_law_pick := let ⟨fd, F⟩ := c.t.d.def_ 36 (d := d_law_pick) rfl; ⟨_, fd, F, He.glo_ok X G (c.t.d.fact 36 (f := .glo "_law_pick") rfl)⟩
theorem df_law_leaf (X : K.In h) (G : h.Ns mainGlobals mg) (c : He.SaysX fa fn ts [] ex w h K) : Dfn K mg "_law_leaf" s_law_leaf := let ⟨fd, F⟩ := c.t.d.def_ 37 (d := d_law_leaf) rfl; ⟨_, fd, F, He.glo_ok X G (c.t.d.fact 37 (f := .glo "_law_leaf") rfl)⟩
theorem df_law_pattern (X : K.In h) (G : h.Ns mainGlobals mg) (c : He.SaysX fa fn ts [] ex w h K) : Dfn K mg "_law_pattern" s_law_pattern := let ⟨fd, F⟩ := c.t.d.def_ 38 (d := d_law_pattern) rfl; ⟨_, fd, F, He.glo_ok X G (c.t.d.fact 38 (f := .glo "_law_pattern") rfl)⟩
theorem df_law_term (X : K.In h) (G : h.Ns mainGlobals mg) (c : He.SaysX fa fn ts [] ex w h K) : Dfn K mg "_law_term" s_law_term := let ⟨fd, F⟩ := c.t.d.def_ 39 (d := d_law_term) rfl; ⟨_, fd, F, He.glo_ok X G (c.t.d.fact 39 (f := .glo "_law_term") rfl)⟩
theorem df_law_parts (X : K.In h) (G : h.Ns mainGlobals mg) (c : He.SaysX fa fn ts [] ex w h K) : Dfn K mg "_law_parts" s_law_parts := let ⟨fd, F⟩ := c.t.d.def_ 40 (d := d_law_parts) rfl; ⟨_, fd, F, He.glo_ok X G (c.t.d.fact 40 (f := .glo "_law_parts") rfl)⟩
theorem df_law_hearing (X : K.In h) (G : h.Ns mainGlobals mg) (c : He.SaysX fa fn ts [] ex w h K) : Dfn K mg "_law_hearing" s_law_hearing := let ⟨fd, F⟩ := c.t.d.def_ 41 (d := d_law_hearing) rfl; ⟨_, fd, F, He.glo_ok X G (c.t.d.fact 41 (f := .glo "_law_hearing") rfl)⟩
theorem df_law_spelled (X : K.In h) (G : h.Ns mainGlobals mg) (c : He.SaysX fa fn ts [] ex w h K) : Dfn K mg "_law_spelled" s_law_spelled := let ⟨fd, F⟩ := c.t.d.def_ 42 (d := d_law_spelled) rfl; ⟨_, fd, F, He.glo_ok X G (c.t.d.fact 42 (f := .glo "_law_spelled") rfl)⟩
theorem df_law_ascending (X : K.In h) (G : h.Ns mainGlobals mg) (c : He.SaysX fa fn ts [] ex w h K) : Dfn K mg "_law_ascending" s_law_ascending := let ⟨fd, F⟩ := c.t.d.def_ 43 (d := d_law_ascending) rfl; ⟨_, fd, F, He.glo_ok X G (c.t.d.fact 43 (f := .glo "_law_ascending") rfl)⟩
theorem df_law (X : K.In h) (G : h.Ns mainGlobals mg) (c : He.SaysX fa fn ts [] ex w h K) : Dfn K mg "law" s_law := let ⟨fd, F⟩ := c.t.d.def_ 44 (d := d_law) rfl; ⟨_, fd, F, He.glo_ok X G (c.t.d.fact 44 (f := .glo "law") rfl)⟩
theorem ck_f (c : He.SaysX fa fn ts [] ex w h K) : CkF K (He.ga K "Cook") := ⟨He.cls_ok (c.t.d.fact 85 (f := .cls "Cook") rfl), He.noat_ok (c.t.d.fact 87 (f := .noat "Cook" "rows") rfl), He.noat_ok (c.t.d.fact 88 (f := .noat "Cook" "found") rfl), He.noat_ok (c.t.d.fact 89 (f := .noat "Cook" "made") rfl)⟩
theorem mt_add (c : He.SaysX fa fn ts [] ex w h K) : Mtd K (He.ga K "Cook") "add" s_Cook_add := let ⟨fd, F⟩ := c.t.d.def_ 46 (d := d_Cook_add) rfl; ⟨_, fd, _, F, He.meth_ok (c.t.d.fact 90 (f := .meth "Cook" "add") rfl)⟩
theorem mt_keep (c : He.SaysX fa fn ts [] ex w h K) : Mtd K (He.ga K "Cook") "keep" s_Cook_keep := let ⟨fd, F⟩ := c.t.d.def_ 47 (d := d_Cook_keep) rfl; ⟨_, fd, _, F, He.meth_ok (c.t.d.fact 91 (f := .meth "Cook" "keep") rfl)⟩
theorem mt_unlock (c : He.SaysX fa fn ts [] ex w h K) : Mtd K (He.ga K "Cook") "unlock" s_Cook_unlock := let ⟨fd, F⟩ := c.t.d.def_ 48 (d := d_Cook_unlock) rfl; ⟨_, fd, _, F, He.meth_ok (c.t.d.fact 92 (f := .meth "Cook" "unlock") rfl)⟩
theorem mt_make (c : He.SaysX fa fn ts [] ex w h K) : Mtd K (He.ga K "Cook") "make" s_Cook_make := let ⟨fd, F⟩ := c.t.d.def_ 49 (d := d_Cook_make) rfl; ⟨_, fd, _, F, He.meth_ok (c.t.d.fact 93 (f := .meth "Cook" "make") rfl)⟩
theorem mt_build (c : He.SaysX fa fn ts [] ex w h K) : Mtd K (He.ga K "Cook") "build" s_Cook_build := let ⟨fd, F⟩ := c.t.d.def_ 50 (d := d_Cook_build) rfl; ⟨_, fd, _, F, He.meth_ok (c.t.d.fact 94 (f := .meth "Cook" "build") rfl)⟩
theorem mr_f (c : He.SaysX fa fn ts [] ex w h K) : Mkr K (He.ga K "Cook") s_Cook_init := let ⟨fd, F⟩ := c.t.d.def_ 45 (d := d_Cook_init) rfl; ⟨_, fd, _, F, He.mkr_ok (c.t.d.fact 86 (f := .mkr "Cook") rfl)⟩
/-- the law's promise, over whatever base -/
theorem law_ok {P : Program} {f0 : Addr} (X : K.In h) (G : h.Ns mainGlobals mg) (hfa : mg ("law" : PySem.Str) = some (.ref f0)) (c : He.SaysX fa fn ts [] ex w h K) :
    ∃ fd : FuncData, (∀ (s : Shared) (v : Value), BindsTo s fd ⟨[v], []⟩ [("_law_script", v)]) ∧ ∀ base : Heap, K.In base → base.Ns mainGlobals mg → FnOk P w K mg base CX0 20 f0 fd ["_law_script"] (sp_law (K := K)) := by
  have T := gs_of X G c
  obtain ⟨fd, F0⟩ := c.t.d.def_ 44 (d := d_law) rfl
  have e := hfa.symm.trans (He.glo_ok X G (c.t.d.fact 44 (f := .glo "law") rfl))
  cases e
  have b := FunD.bindsA (ps := ["_law_script"]) F0 fun _ _ _ _ _ _ us hl => match us, hl with | [_], _ => rfl
  refine ⟨fd, fun s v => b s [v] rfl, fun base _ _ => ?_⟩
  have F := ck_f c
  have hCook : mg "Cook" = some (.ref (He.ga K "Cook")) := He.glo_ok X G (c.t.d.fact 45 (f := .glo "Cook") rfl)
  have c1 : C8.Cal P w K mg base 1 "is_integer" sp_is_integer [] := c_is_integer (df_is_integer X G c) T
  have c2 : C8.Cal P w K mg base 2 "is_between" sp_is_between [] := c_is_between (df_is_between X G c) T c1
  have c3 : C8.Cal P w K mg base 1 "is_name" sp_is_name [] := c_is_name (df_is_name X G c) T
  have c4 : C8.Cal P w K mg base 1 "is_row" sp_is_row [] := c_is_row (df_is_row X G c) T
  have c5 : C8.Cal P w K mg base 2 "is_name_dict" sp_is_name_dict [] := c_is_name_dict (df_is_name_dict X G c) T c3
  have c6 : C8.Cal P w K mg base 2 "is_leaf" sp_is_leaf [] := c_is_leaf (df_is_leaf X G c) T c3
  have c7 : C8.Cal P w K mg base 8 "measure" (sp_measure 5) [] := c_measure (df_measure X G c) T c6 5
  have c8 : C8.Cal P w K mg base 9 "has_form" sp_has_form [] := c_has_form (df_has_form X G c) T c7
  have c9 : C8.Cal P w K mg base 10 "is_term" sp_is_term [] := c_is_term (df_is_term X G c) T c8
  have c10 : C8.Cal P w K mg base 11 "check_term" sp_check_term [] := c_check_term (df_check_term X G c) T c9
  have c11 : C8.Cal P w K mg base 6 "replaced" (sp_replaced 5) [] := c_replaced (df_replaced X G c) T 5
  have c12 : C8.Cal P w K mg base 12 "renamed" sp_renamed [] := c_renamed (df_renamed X G c) T c10 c5 c11
  have c13 : C8.Cal P w K mg base 6 "spelled" (sp_spelled 5) [] := c_spelled (df_spelled X G c) T 5
  have c14 : C8.Cal P w K mg base 7 "by_wordings" (sp_by_wordings (w := w)) [] := c_by_wordings (df_by_wordings X G c) T c13
  have c15 : C8.Cal P w K mg base 6 "_law_spelled" (sp_spelled 5) [] := c_law_spelled (df_law_spelled X G c) T 5
  have c16 : C8.Cal P w K mg base 7 "_law_ascending" sp_law_ascending [] := c_law_ascending (df_law_ascending X G c) T c15
  have c17 : C8.Cal P w K mg base 11 "good_hearing" sp_good_hearing [] := c_good_hearing (df_good_hearing X G c) T c4 c9
  have c18 : C8.Cal P w K mg base 1 "pieces" sp_pieces [] := c_pieces (df_pieces X G c) T
  have c19 : C8.Cal P w K mg base 9 "is_built" (sp_is_built (w := w) 7) [] := c_is_built (df_is_built X G c) T c18 7
  have c20 : C8.Cal P w K mg base 10 "openings" (sp_openings (w := w)) [] := c_openings (df_openings X G c) T c19
  have c21 : C8.Cal P w K mg base 11 "least_closed" (sp_least_closed (w := w)) [] := c_least_closed (df_least_closed X G c) T c20
  have c22 : C8.Cal P w K mg base 12 "can_make" sp_can_make [] := c_can_make T c17 c10 c19 c21 (df_can_make X G c)
  have c23 : C8.Cal P w K mg base 12 "opened" sp_opened [] := c_opened T c17 c14 c21 (df_opened X G c)
  have c24 : C8.Cal P w K mg base 12 "closed_paper" sp_closed_paper [] := c_closed_paper T c17 c10 c19 c14 c21 (df_closed_paper X G c)
  have c25 : C8.Cal P w K mg base 12 "is_closed_paper" sp_is_closed_paper [] := c_is_closed_paper T c17 c10 c9 c19 c20 (df_is_closed_paper X G c)
  have c26 : C8.Cal P w K mg base 3 "is_recipe_step" sp_is_recipe_step [] := c_is_recipe_step (df_is_recipe_step X G c) T c1 c2
  have c27 : C8.Cal P w K mg base 4 "is_recipe" sp_is_recipe [] := c_is_recipe (df_is_recipe X G c) T c26
  have c28 : C8.Cal P w K mg base 5 "check_recipe" sp_check_recipe [] := c_check_recipe (df_check_recipe X G c) T c27
  have c29 : C8.Cal P w K mg base 1 "opened_term" sp_opened_term [] := c_opened_term (df_opened_term X G c) T
  have c30 : C8.Cal P w K mg base 11 "built_term" sp_built_term [] := c_built_term (df_built_term X G c) T c9
  have c31 : C8.Cal P w K mg base 12 "played_step" sp_played_step [] := c_played_step (df_played_step X G c) T c29 c30
  have c32 : C8.Cal P w K mg base 13 "played" sp_played [] := c_played (df_played X G c) T c17 c28 c31
  have c33 : C8.Cal P w K mg base 1 "pruned" sp_pruned [] := c_pruned (df_pruned X G c) T
  have m1 : C8.Met P w K mg base 1 (He.ga K "Cook") "add" (sp_Cook_add (w := w) (He.ga K "Cook")) [] := c_Cook_add F (mt_add c) T
  have m2 : C8.Met P w K mg base 2 (He.ga K "Cook") "keep" (sp_Cook_keep (w := w) (He.ga K "Cook")) [] := c_Cook_keep F (mt_keep c) T m1
  have m3 : C8.Met P w K mg base 15 (He.ga K "Cook") "make" (sp_Cook_make (w := w) (He.ga K "Cook") 7) [] := c_Cook_make F (mt_make c) (mt_build c) T m1 c18 7
  have m4 : C8.Met P w K mg base 16 (He.ga K "Cook") "unlock" (sp_Cook_unlock (w := w) (He.ga K "Cook")) [] := c_Cook_unlock F (mt_unlock c) T m2 c19 m3
  have m5 : C8.Mak P w K mg base 17 "Cook" (He.ga K "Cook") (sp_Cook_init (w := w) (He.ga K "Cook")) [] := c_Cook F (mr_f c) hCook T m2 m4
  have c34 : C8.Cal P w K mg base 19 "recipe_for" sp_recipe_for [] := c_recipe_for F (df_recipe_for X G c) T c17 c10 c19 m5 m3 c33
  have l1 : C8.Cal P w K mg base 1 "_law_bag" (sp_law_bag (K := K)) [] := c_law_bag (df_law_bag X G c) T
  have l2 : C8.Cal P w K mg base 1 "_law_draw" sp_law_draw [] := c_law_draw (df_law_draw X G c) T
  have l3 : C8.Cal P w K mg base 9 "_law_same" (sp_law_same 8) [] := c_law_same (df_law_same X G c) T 8
  have l4 : C8.Cal P w K mg base 2 "_law_names" sp_law_names [] := c_law_names (df_law_names X G c) T l2
  have l5 : C8.Cal P w K mg base 2 "_law_pick" sp_law_pick [] := c_law_pick (df_law_pick X G c) T l2
  have l6 : C8.Cal P w K mg base 3 "_law_leaf" sp_law_leaf [] := c_law_leaf (df_law_leaf X G c) T l2 l5
  have l7 : C8.Cal P w K mg base 8 "_law_pattern" (sp_law_pattern 4) [] := c_law_pattern (df_law_pattern X G c) T l2 l6 4
  have l8 : C8.Cal P w K mg base 9 "_law_term" sp_law_term [] := c_law_term (df_law_term X G c) T l7
  have l9 : C8.Cal P w K mg base 5 "_law_parts" (sp_law_parts 4) [] := c_law_parts (df_law_parts X G c) T 4 (by decide)
  have l10 : C8.Cal P w K mg base 10 "_law_hearing" sp_law_hearing [] := c_law_hearing (df_law_hearing X G c) T l2 l5 l8 l9
  exact ok_law T l1 l2 l4 l5 l8 l10 l9 l3 c16 c23 c22 c24 c25 c34 c32 c12 F0
end
end Kt
open PySem PySem.W PySem.Calls PyProof.Rows
theorem PySem.Challenge.cw_sealedtalk_k14_whole_hearings_renamed_holds : PySem.Challenge.rw_sealedtalk_k14_whole_hearings_renamed.Holds := by
  w_on; o_law
  refine HandSHeadRun.head_any (r := Kt.R) (q := view Kt.R.prog [81]) (H := Kt.hk) (ob := Kt.ob) (M := 4000) (loose := Kt.nms) (d := HandSHeadRun.topDef Kt.R.prog 81) (kwd := []) Kt.ob_eq
    (by kernel_rfl) (fun s => by kernel_rfl) Kt.run (by kernel_rfl) (by kernel_rfl) (by kernel_rfl) (by rfl) (by first | assumption | decide +kernel) (by decide +kernel) ⟨rfl, rfl, rfl, rfl, rfl, by decide +kernel⟩ ?hw ?hc
  case hw => w_witness2
  case hc =>
    refine L2.walk_ofE (l := PySem.Challenge.rw_sealedtalk_k14_whole_hearings_renamed) (n := 63) (k := 20) (x := "_law_script") (CX := L2.CX0) rfl (by decide) (by kernel_rfl) ⟨rfl, by decide, by decide⟩ ?F (fun _ _ _ _ z => z)
    intro w mg fa h Y G hmg0
    obtain ⟨K, KX, c⟩ := Y
    have hmg : mg ("law" : PySem.Str) = some (.ref fa) := by
      have e : (HandSHeadRun.topDef Kt.R.prog 81).name = ("law" : PySem.Str) := by kernel_rfl
      rw [← e]
      exact hmg0
    obtain ⟨fd, hb, hF⟩ := Kt.law_ok (P := (PySem.Challenge.rw_sealedtalk_k14_whole_hearings_renamed).prog) (w := w) KX G hmg c
    exact ⟨K, fd, Kt.sp_law (K := K), KX, hb, fun H a ns hl _ hS => ⟨a, ns, rfl, hS, hl, fun _ => rfl⟩, hF⟩
