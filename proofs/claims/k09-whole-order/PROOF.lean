import PyProof.Rows.All
import Wide.All
import OpenK.AllK
import Wide.FinOn
import HandS.ForMost
import HandS.Set
import HandS.SetTxt0
import HandS.SetFor
import HandS.Strs
import HandS.SetBool
import HandS.TupLe
import HandS.TupAny
import HandS.Evl
import HandS.IsInst
import HandS.Replace
import PySem.Challenge.RW_whomaywhat_k09_whole_order_of_requests
set_option Elab.async false
set_option linter.all false
set_option maxRecDepth 100000
set_option maxHeartbeats 4000000
set_option autoImplicit false
namespace K9
open PySem

/-! ### words -/
def SLt (a b : Str) : Prop := a.cps.toList < b.cps.toList
theorem slt_irrefl (a : Str) : ¬ SLt a a := List.lt_irrefl a.cps.toList
theorem slt_trans {a b c : Str} (h : SLt a b) (g : SLt b c) : SLt a c := List.lt_trans h g
theorem slt_asymm {a b : Str} (h : SLt a b) : ¬ SLt b a := fun g => slt_irrefl a (slt_trans h g)
theorem str_ext {a b : Str} (h : a.cps.toList = b.cps.toList) : a = b := by
  obtain ⟨x⟩ := a
  obtain ⟨y⟩ := b
  exact congrArg Str.mk (Array.ext' h)
theorem slt_tri {a b : Str} (h : a ≠ b) : SLt a b ∨ SLt b a := by
  by_cases h1 : SLt a b
  · exact .inl h1
  · by_cases h2 : SLt b a
    · exact .inr h2
    · exact absurd (str_ext (List.le_antisymm h2 h1)) h
/-- a word: letters a to z, at least one -/
def IsW (w : Str) : Prop := w.cps.toList ≠ [] ∧ w.cps.toList.length ≤ 60 ∧ ∀ c ∈ w.cps.toList, 97 ≤ c ∧ c ≤ 122
/-- a word or the blank -/
def IsB (w : Str) : Prop := w = Str.empty ∨ IsW w
theorem isW_ne {w : Str} (h : IsW w) : w ≠ Str.empty := fun e => h.1 (by rw [e]; rfl)
def dig (n : Int) (c : Nat) : Int := n * 26 + ((c : Int) - 97) + 1
def wnum (w : Str) : Int := w.cps.toList.foldl dig 0
def numR : List Nat → Int
  | [] => 0
  | c :: r => dig (numR r) c
theorem wnum_eq (w : Str) : wnum w = numR w.cps.toList.reverse := by
  have h : ∀ l : List Nat, numR l = l.reverse.foldl dig 0 := by
    intro l
    induction l with
    | nil => rfl
    | cons c r ih => rw [List.reverse_cons, List.foldl_append, ← ih]; rfl
  rw [h, List.reverse_reverse, wnum]
theorem numR_nn : ∀ {l : List Nat}, (∀ c ∈ l, 97 ≤ c ∧ c ≤ 122) → 0 ≤ numR l
  | [], _ => Int.le_refl _
  | c :: r, h => by
    have h1 := numR_nn (l := r) fun x hx => h x (List.mem_cons_of_mem _ hx)
    have h2 := h c List.mem_cons_self
    show 0 ≤ numR r * 26 + ((c : Int) - 97) + 1
    omega
theorem numR_inj : ∀ {l k : List Nat}, (∀ c ∈ l, 97 ≤ c ∧ c ≤ 122) → (∀ c ∈ k, 97 ≤ c ∧ c ≤ 122) → numR l = numR k → l = k
  | [], [], _, _, _ => rfl
  | [], c :: r, _, h, e => by
    have h1 := numR_nn (l := r) fun x hx => h x (List.mem_cons_of_mem _ hx)
    have h2 := h c List.mem_cons_self
    have e' : (0 : Int) = numR r * 26 + ((c : Int) - 97) + 1 := e
    omega
  | c :: r, [], h, _, e => by
    have h1 := numR_nn (l := r) fun x hx => h x (List.mem_cons_of_mem _ hx)
    have h2 := h c List.mem_cons_self
    have e' : numR r * 26 + ((c : Int) - 97) + 1 = (0 : Int) := e
    omega
  | c :: r, d :: t, h, g, e => by
    have h1 := numR_nn (l := r) fun x hx => h x (List.mem_cons_of_mem _ hx)
    have h2 := h c List.mem_cons_self
    have g1 := numR_nn (l := t) fun x hx => g x (List.mem_cons_of_mem _ hx)
    have g2 := g d List.mem_cons_self
    have e' : numR r * 26 + ((c : Int) - 97) + 1 = numR t * 26 + ((d : Int) - 97) + 1 := e
    have e1 : numR r = numR t := by omega
    have e2 : c = d := by omega
    rw [e2, numR_inj (fun x hx => h x (List.mem_cons_of_mem _ hx)) (fun x hx => g x (List.mem_cons_of_mem _ hx)) e1]
theorem wnum_inj {a b : Str} (ha : IsW a) (hb : IsW b) (e : wnum a = wnum b) : a = b := by
  rw [wnum_eq, wnum_eq] at e
  have h := numR_inj (fun c hc => ha.2.2 c (List.mem_reverse.mp hc)) (fun c hc => hb.2.2 c (List.mem_reverse.mp hc)) e
  exact str_ext (List.reverse_inj.mp h)

/-! ### places -/
abbrev Pl := Int × Int
def PLt (p q : Pl) : Prop := p.1 < q.1 ∨ (p.1 = q.1 ∧ p.2 < q.2)
theorem plt_irrefl (p : Pl) : ¬ PLt p p := fun h => by
  rcases h with h | h
  · exact absurd h (Int.lt_irrefl _)
  · exact absurd h.2 (Int.lt_irrefl _)
theorem plt_trans {p q r : Pl} (h : PLt p q) (g : PLt q r) : PLt p r := by
  unfold PLt at *
  omega
theorem plt_asymm {p q : Pl} (h : PLt p q) : ¬ PLt q p := fun g => plt_irrefl p (plt_trans h g)
theorem plt_tri {p q : Pl} (h : p ≠ q) : PLt p q ∨ PLt q p := by
  by_cases e1 : p.1 = q.1
  · by_cases e2 : p.2 = q.2
    · exact absurd (Prod.ext e1 e2) h
    · unfold PLt
      omega
  · unfold PLt
    omega
def place (m : List Str) (w : Str) : Pl := if w = Str.empty then (0, 0) else if w ∈ m then (1, ((m.idxOf w : Nat) : Int)) else (2, wnum w)
theorem idx_get {m : List Str} {a : Str} (h : a ∈ m) : m[m.idxOf a]? = some a := by
  have hl := List.idxOf_lt_length_iff.mpr h
  rw [List.getElem?_eq_getElem hl]
  exact congrArg some (List.getElem_idxOf hl)
theorem idx_first {a : Str} : ∀ {m : List Str} {j : Nat}, j < m.idxOf a → m[j]? ≠ some a
  | [], j, h => by simp at h
  | b :: r, j, h => by
    by_cases e : b = a
    · subst e
      rw [List.idxOf_cons_self] at h
      exact absurd h (Nat.not_lt_zero _)
    · rw [List.idxOf_cons, show (b == a) = false from beq_eq_false_iff_ne.mpr e, cond_false] at h
      cases j with
      | zero => intro q; exact e (Option.some.inj q)
      | succ j =>
        intro q
        exact idx_first (m := r) (j := j) (by omega) q
theorem place_inj {m : List Str} {a b : Str} (ha : IsB a) (hb : IsB b) (e : place m a = place m b) : a = b := by
  unfold place at e
  by_cases za : a = Str.empty
  · rw [if_pos za] at e
    by_cases zb : b = Str.empty
    · rw [za, zb]
    · rw [if_neg zb] at e
      split at e <;> simp at e
  · rw [if_neg za] at e
    by_cases zb : b = Str.empty
    · rw [if_pos zb] at e
      split at e <;> simp at e
    · rw [if_neg zb] at e
      by_cases ma : a ∈ m
      · rw [if_pos ma] at e
        by_cases mb : b ∈ m
        · rw [if_pos mb] at e
          have e2 : m.idxOf a = m.idxOf b := by
            have q := (Prod.mk.inj e).2
            omega
          have g1 := idx_get ma
          rw [e2, idx_get mb] at g1
          exact (Option.some.inj g1).symm
        · rw [if_neg mb] at e
          simp at e
      · rw [if_neg ma] at e
        by_cases mb : b ∈ m
        · rw [if_pos mb] at e
          simp at e
        · rw [if_neg mb] at e
          exact wnum_inj (ha.resolve_left za) (hb.resolve_left zb) (Prod.mk.inj e).2
def WLt (m : List Str) (a b : Str) : Prop := PLt (place m a) (place m b)
theorem wlt_irrefl {m : List Str} (a : Str) : ¬ WLt m a a := plt_irrefl _
theorem wlt_trans {m : List Str} {a b c : Str} (h : WLt m a b) (g : WLt m b c) : WLt m a c := plt_trans h g
theorem wlt_asymm {m : List Str} {a b : Str} (h : WLt m a b) : ¬ WLt m b a := plt_asymm h
theorem wlt_tri {m : List Str} {a b : Str} (ha : IsB a) (hb : IsB b) (h : a ≠ b) : WLt m a b ∨ WLt m b a := plt_tri fun e => h (place_inj ha hb e)
theorem place_blank (m : List Str) : place m Str.empty = (0, 0) := if_pos rfl
theorem place_pos {m : List Str} {w : Str} (h : w ≠ Str.empty) : 1 ≤ (place m w).1 := by
  unfold place
  rw [if_neg h]
  split <;> simp
theorem blank_wlt {m : List Str} {w : Str} (h : w ≠ Str.empty) : WLt m Str.empty w := by
  have := place_pos (m := m) h
  unfold WLt
  rw [place_blank]
  exact .inl (by show (0 : Int) < (place m w).1; omega)
theorem not_wlt_blank {m : List Str} {w : Str} : ¬ WLt m w Str.empty := by
  by_cases h : w = Str.empty
  · rw [h]; exact wlt_irrefl _
  · exact wlt_asymm (blank_wlt h)

/-! ### values -/
inductive Cv where
  | word (w : Str)
  | path (ps : List Str)
  | set (ws : List Str)
  | num (n : Int)
  deriving DecidableEq
def dft : Nat → Cv
  | 0 => .word Str.empty
  | 1 => .path []
  | 2 => .set []
  | _ => .num 0
/-- a value other than the default, in its one form; sets of at most N members -/
def OkV (N : Nat) : Nat → Cv → Prop
  | 0, .word w => IsW w
  | 1, .path ps => ps ≠ [] ∧ ps.length ≤ 5 ∧ ∀ p ∈ ps, IsW p
  | 2, .set ws => ws ≠ [] ∧ ws.length ≤ N ∧ ws.Pairwise SLt ∧ ∀ p ∈ ws, IsW p
  | 3, .num n => n ≠ 0
  | _, _ => False
def OkC (N k : Nat) (c : Cv) : Prop := c = dft k ∨ OkV N k c
theorem okV_mono {N M k : Nat} {c : Cv} (h : N ≤ M) (o : OkV N k c) : OkV M k c := by
  match k, c, o with
  | 0, .word w, o => exact o
  | 1, .path ps, o => exact o
  | 2, .set ws, o => exact ⟨o.1, Nat.le_trans o.2.1 h, o.2.2⟩
  | 3, .num n, o => exact o
theorem okV_ne {N k : Nat} {c : Cv} (o : OkV N k c) : c ≠ dft k := by
  match k, c, o with
  | 0, .word w, o => intro e; exact isW_ne o (Cv.word.inj e)
  | 1, .path ps, o => intro e; exact o.1 (Cv.path.inj e)
  | 2, .set ws, o => intro e; exact o.1 (Cv.set.inj e)
  | 3, .num n, o => intro e; exact o (Cv.num.inj e)
theorem okV_lt {N k : Nat} {c : Cv} (o : OkV N k c) : k < 4 := by
  match k, c, o with
  | 0, .word w, _ => decide
  | 1, .path ps, _ => decide
  | 2, .set ws, _ => decide
  | 3, .num n, _ => decide
def PathLt (m : List Str) (xs ys : List Str) : Prop := ∃ i : Nat, WLt m (xs.getD i Str.empty) (ys.getD i Str.empty) ∧ ∀ j, j < i → xs.getD j Str.empty = ys.getD j Str.empty
def SetLt (m : List Str) (xs ys : List Str) : Prop := ∃ w, w ∈ ys ∧ w ∉ xs ∧ ∀ v, WLt m w v → (v ∈ xs ↔ v ∈ ys)
def NumLt (a b : Int) : Prop := a.natAbs < b.natAbs ∨ (a.natAbs = b.natAbs ∧ 0 ≤ a ∧ b < 0)
def CLt (m : List Str) : Cv → Cv → Prop
  | .word a, .word b => WLt m a b
  | .path a, .path b => PathLt m a b
  | .set a, .set b => SetLt m a b
  | .num a, .num b => NumLt a b
  | _, _ => False
theorem pathLt_irrefl {m xs : List Str} : ¬ PathLt m xs xs := fun ⟨_, h, _⟩ => wlt_irrefl _ h
theorem pathLt_trans {m xs ys zs : List Str} (h : PathLt m xs ys) (g : PathLt m ys zs) : PathLt m xs zs := by
  obtain ⟨i, h1, h2⟩ := h
  obtain ⟨j, g1, g2⟩ := g
  rcases Nat.lt_trichotomy i j with c | c | c
  · exact ⟨i, by rw [← g2 i c]; exact h1, fun k hk => (h2 k hk).trans (g2 k (Nat.lt_trans hk c))⟩
  · subst c
    exact ⟨i, wlt_trans h1 g1, fun k hk => (h2 k hk).trans (g2 k hk)⟩
  · exact ⟨j, by rw [h2 j c]; exact g1, fun k hk => (h2 k (Nat.lt_trans hk c)).trans (g2 k hk)⟩
theorem setLt_irrefl {m xs : List Str} : ¬ SetLt m xs xs := fun ⟨_, h, g, _⟩ => g h
theorem setLt_trans {m xs ys zs : List Str} (hy : ∀ w ∈ ys, IsW w) (hz : ∀ w ∈ zs, IsW w) (h : SetLt m xs ys) (g : SetLt m ys zs) : SetLt m xs zs := by
  obtain ⟨u, h1, h2, h3⟩ := h
  obtain ⟨v, g1, g2, g3⟩ := g
  have ne : u ≠ v := fun e => g2 (e ▸ h1)
  rcases wlt_tri (m := m) (.inr (hy u h1)) (.inr (hz v g1)) ne with c | c
  · exact ⟨v, g1, fun e => g2 ((h3 v c).mp e), fun x hx => (h3 x (wlt_trans c hx)).trans (g3 x hx)⟩
  · exact ⟨u, (g3 u c).mp h1, h2, fun x hx => (h3 x hx).trans (g3 x (wlt_trans c hx))⟩
theorem numLt_irrefl {a : Int} : ¬ NumLt a a := by unfold NumLt; omega
theorem numLt_trans {a b c : Int} (h : NumLt a b) (g : NumLt b c) : NumLt a c := by unfold NumLt at *; omega

theorem okC_form {N k : Nat} {c : Cv} (hk : k < 4) (o : OkC N k c) :
    (k = 0 ∧ ∃ w, c = .word w ∧ IsB w) ∨ (k = 1 ∧ ∃ ps, c = .path ps ∧ ps.length ≤ 5 ∧ ∀ p ∈ ps, IsW p) ∨
      (k = 2 ∧ ∃ ws, c = .set ws ∧ ws.length ≤ N ∧ ws.Pairwise SLt ∧ ∀ p ∈ ws, IsW p) ∨ (k = 3 ∧ ∃ n, c = .num n) := by
  rcases o with rfl | o
  · match k, hk with
    | 0, _ => exact .inl ⟨rfl, _, rfl, .inl rfl⟩
    | 1, _ => exact .inr (.inl ⟨rfl, _, rfl, Nat.zero_le _, fun _ h => nomatch h⟩)
    | 2, _ => exact .inr (.inr (.inl ⟨rfl, _, rfl, Nat.zero_le _, List.Pairwise.nil, fun _ h => nomatch h⟩))
    | 3, _ => exact .inr (.inr (.inr ⟨rfl, _, rfl⟩))
  · match k, c, o with
    | 0, .word w, o => exact .inl ⟨rfl, _, rfl, .inr o⟩
    | 1, .path ps, o => exact .inr (.inl ⟨rfl, _, rfl, o.2.1, o.2.2⟩)
    | 2, .set ws, o => exact .inr (.inr (.inl ⟨rfl, _, rfl, o.2.1, o.2.2.1, o.2.2.2⟩))
    | 3, .num n, _ => exact .inr (.inr (.inr ⟨rfl, _, rfl⟩))
theorem clt_irrefl {m : List Str} {c : Cv} : ¬ CLt m c c := by
  cases c with
  | word w => exact wlt_irrefl _
  | path ps => exact pathLt_irrefl
  | set ws => exact setLt_irrefl
  | num n => exact numLt_irrefl
theorem clt_trans {N k : Nat} {m : List Str} {a b c : Cv} (hk : k < 4) (oa : OkC N k a) (ob : OkC N k b) (oc : OkC N k c) (h : CLt m a b) (g : CLt m b c) : CLt m a c := by
  rcases okC_form hk oa with ⟨rfl, wa, rfl, _⟩ | ⟨rfl, wa, rfl, _⟩ | ⟨rfl, wa, rfl, _⟩ | ⟨rfl, wa, rfl⟩
  · rcases okC_form hk ob with ⟨_, wb, rfl, _⟩ | ⟨e, _⟩ | ⟨e, _⟩ | ⟨e, _⟩ <;> try cases e
    rcases okC_form hk oc with ⟨_, wc, rfl, _⟩ | ⟨e, _⟩ | ⟨e, _⟩ | ⟨e, _⟩ <;> try cases e
    exact wlt_trans h g
  · rcases okC_form hk ob with ⟨e, _⟩ | ⟨_, wb, rfl, _⟩ | ⟨e, _⟩ | ⟨e, _⟩ <;> try cases e
    rcases okC_form hk oc with ⟨e, _⟩ | ⟨_, wc, rfl, _⟩ | ⟨e, _⟩ | ⟨e, _⟩ <;> try cases e
    exact pathLt_trans h g
  · rcases okC_form hk ob with ⟨e, _⟩ | ⟨e, _⟩ | ⟨_, wb, rfl, _, _, hb⟩ | ⟨e, _⟩ <;> try cases e
    rcases okC_form hk oc with ⟨e, _⟩ | ⟨e, _⟩ | ⟨_, wc, rfl, _, _, hc⟩ | ⟨e, _⟩ <;> try cases e
    exact setLt_trans hb hc h g
  · rcases okC_form hk ob with ⟨e, _⟩ | ⟨e, _⟩ | ⟨e, _⟩ | ⟨_, wb, rfl⟩ <;> try cases e
    rcases okC_form hk oc with ⟨e, _⟩ | ⟨e, _⟩ | ⟨e, _⟩ | ⟨_, wc, rfl⟩ <;> try cases e
    exact numLt_trans h g
theorem not_clt_dft {k : Nat} {m : List Str} {c : Cv} : ¬ CLt m c (dft k) := by
  intro h
  match k, c, h with
  | 0, .word w, h => exact not_wlt_blank h
  | 1, .path ps, ⟨i, h, _⟩ => exact not_wlt_blank (by simpa using h)
  | 2, .set ws, ⟨w, h, _⟩ => exact nomatch h
  | _ + 3, .num n, h => revert h; show ¬ NumLt n 0; unfold NumLt; omega
/-- the greatest of some words, by place -/
theorem top_word (m : List Str) : ∀ ws : List Str, ws ≠ [] → ∃ w ∈ ws, ∀ v ∈ ws, ¬ WLt m w v
  | [], h => absurd rfl h
  | [w], _ => ⟨w, List.mem_cons_self, fun v hv => by rw [List.mem_singleton.mp hv]; exact wlt_irrefl _⟩
  | w :: x :: r, _ => by
    obtain ⟨t, h1, h2⟩ := top_word m (x :: r) (List.cons_ne_nil _ _)
    by_cases c : WLt m t w
    · exact ⟨w, List.mem_cons_self, fun v hv => by
        rcases List.mem_cons.mp hv with e | e
        · rw [e]; exact wlt_irrefl _
        · exact fun g => h2 v e (wlt_trans c g)⟩
    · exact ⟨t, List.mem_cons_of_mem _ h1, fun v hv => by
        rcases List.mem_cons.mp hv with e | e
        · rw [e]; exact c
        · exact h2 v e⟩
theorem dft_clt {N k : Nat} {m : List Str} {c : Cv} (o : OkV N k c) : CLt m (dft k) c := by
  match k, c, o with
  | 0, .word w, o => exact blank_wlt (isW_ne o)
  | 1, .path (p :: r), o => exact ⟨0, blank_wlt (isW_ne (o.2.2 p List.mem_cons_self)), fun j hj => absurd hj (Nat.not_lt_zero _)⟩
  | 1, .path [], o => exact absurd rfl o.1
  | 2, .set ws, o =>
    obtain ⟨w, h1, h2⟩ := top_word m ws o.1
    exact ⟨w, h1, List.not_mem_nil, fun v hv => ⟨fun e => (nomatch e), fun e => absurd hv (h2 v e)⟩⟩
  | 3, .num n, o =>
    show NumLt 0 n
    have o' : n ≠ 0 := o
    unfold NumLt
    omega

/-! ### sections, requests -/
abbrev Sec := List (Str × Cv)
def look (f : Str) (d : Cv) : Sec → Cv
  | [] => d
  | (g, c) :: r => if g = f then c else look f d r
structure OkSec (N k : Nat) (s : Sec) : Prop where
  asc : (s.map (·.1)).Pairwise SLt
  fld : ∀ p ∈ s, IsW p.1
  val : ∀ p ∈ s, OkV N k p.2
  len : s.length ≤ 3
theorem OkSec.mono {N M k : Nat} {s : Sec} (h : N ≤ M) (o : OkSec N k s) : OkSec M k s := ⟨o.asc, o.fld, fun p hp => okV_mono h (o.val p hp), o.len⟩
theorem OkSec.nil {N k : Nat} : OkSec N k [] := ⟨List.Pairwise.nil, fun _ h => (nomatch h), fun _ h => (nomatch h), Nat.zero_le _⟩
theorem look_not {f : Str} {d : Cv} : ∀ {s : Sec}, f ∉ s.map (·.1) → look f d s = d
  | [], _ => rfl
  | (g, c) :: r, h => by
    have h1 : g ≠ f := fun e => h (by rw [← e]; exact List.mem_cons_self)
    show (if g = f then c else look f d r) = d
    rw [if_neg h1]
    exact look_not fun e => h (List.mem_cons_of_mem _ e)
theorem look_mem {f : Str} {d c : Cv} : ∀ {s : Sec}, (s.map (·.1)).Pairwise SLt → (f, c) ∈ s → look f d s = c
  | (g, e) :: r, p, h => by
    obtain ⟨p1, p2⟩ := List.pairwise_cons.mp p
    show (if g = f then e else look f d r) = c
    rcases List.mem_cons.mp h with q | q
    · have q1 := (Prod.mk.inj q).1
      have q2 := (Prod.mk.inj q).2
      rw [if_pos q1.symm, q2]
    · have h1 : g ≠ f := fun z => slt_irrefl f (by
        have := p1 f (List.mem_map.mpr ⟨(f, c), q, rfl⟩)
        rw [z] at this
        exact this)
      rw [if_neg h1]
      exact look_mem p2 q
theorem look_ok {N k : Nat} {s : Sec} (o : OkSec N k s) (f : Str) : OkC N k (look f (dft k) s) := by
  by_cases h : f ∈ s.map (·.1)
  · obtain ⟨⟨g, c⟩, h1, h2⟩ := List.mem_map.mp h
    have e : g = f := h2
    subst e
    rw [look_mem o.asc h1]
    exact .inr (o.val _ h1)
  · rw [look_not h]
    exact .inl rfl
theorem sec_ext {d : Cv} : ∀ {s t : Sec}, (s.map (·.1)).Pairwise SLt → (t.map (·.1)).Pairwise SLt → (∀ p ∈ s, p.2 ≠ d) → (∀ p ∈ t, p.2 ≠ d) → (∀ f, look f d s = look f d t) → s = t
  | [], [], _, _, _, _, _ => rfl
  | [], (g, c) :: r, _, p, _, n, h => by
    have := h g
    rw [look_mem p List.mem_cons_self] at this
    exact absurd this.symm (n _ List.mem_cons_self)
  | (g, c) :: r, [], p, _, n, _, h => by
    have := h g
    rw [look_mem p List.mem_cons_self] at this
    exact absurd this (n _ List.mem_cons_self)
  | (g, c) :: r, (g', c') :: r', p, p', n, n', h => by
    have below : ∀ {a b : Str} {x : Cv} {y : Cv} {u v : Sec}, (((b, y) :: v).map (·.1)).Pairwise SLt → SLt a b → look a d ((b, y) :: v) = d := fun {a b x y u v} q l => look_not fun e => by
      rcases List.mem_cons.mp e with z | z
      · exact slt_irrefl a (by rw [show b = a from z.symm] at l; exact l)
      · exact slt_asymm l ((List.pairwise_cons.mp q).1 a z)
    have eg : g = g' := by
      by_cases e : g = g'
      · exact e
      · rcases slt_tri e with l | l
        · have q := h g
          rw [look_mem p List.mem_cons_self, below (x := c) (u := r) p' l] at q
          exact absurd q (n _ List.mem_cons_self)
        · have q := h g'
          rw [look_mem p' List.mem_cons_self, below (x := c) (u := r) p l] at q
          exact absurd q.symm (n' _ List.mem_cons_self)
    subst eg
    have ec : c = c' := by
      have q := h g
      rw [look_mem p List.mem_cons_self, look_mem p' List.mem_cons_self] at q
      exact q
    subst ec
    obtain ⟨p1, p2⟩ := List.pairwise_cons.mp p
    obtain ⟨p1', p2'⟩ := List.pairwise_cons.mp p'
    have er : r = r' := sec_ext p2 p2' (fun x hx => n x (List.mem_cons_of_mem _ hx)) (fun x hx => n' x (List.mem_cons_of_mem _ hx)) fun f => by
      by_cases e : g = f
      · subst e
        have z1 : g ∉ r.map (·.1) := fun hm => slt_irrefl g (p1 g hm)
        have z2 : g ∉ r'.map (·.1) := fun hm => slt_irrefl g (p1' g hm)
        rw [look_not z1, look_not z2]
      · have q := h f
        have e1 : look f d ((g, c) :: r) = look f d r := if_neg e
        have e2 : look f d ((g, c) :: r') = look f d r' := if_neg e
        rw [e1, e2] at q
        exact q
    rw [er]
abbrev Req := List Sec
def OkReq (N : Nat) (r : Req) : Prop := r.length = 4 ∧ ∀ k s, r[k]? = some s → OkSec N k s
def val (r : Req) (k : Nat) (f : Str) : Cv := look f (dft k) (r.getD k [])
def emptyReq : Req := [[], [], [], []]
theorem OkReq.mono {N M : Nat} {r : Req} (h : N ≤ M) (o : OkReq N r) : OkReq M r := ⟨o.1, fun k s e => (o.2 k s e).mono h⟩
theorem OkReq.sec {N k : Nat} {r : Req} (o : OkReq N r) : OkSec N k (r.getD k []) := by
  rw [List.getD_eq_getElem?_getD]
  cases e : r[k]? with
  | none => exact OkSec.nil
  | some s => exact o.2 k s e
theorem OkReq.val {N k : Nat} {r : Req} (o : OkReq N r) (f : Str) : OkC N k (val r k f) := look_ok o.sec f
theorem okReq_empty {N : Nat} : OkReq N emptyReq := ⟨rfl, fun k s e => by
  have h : s = [] := by
    match k, e with
    | 0, e => exact (Option.some.inj e).symm
    | 1, e => exact (Option.some.inj e).symm
    | 2, e => exact (Option.some.inj e).symm
    | 3, e => exact (Option.some.inj e).symm
  subst h
  exact OkSec.nil⟩
theorem val_empty (k : Nat) (f : Str) : val emptyReq k f = dft k := by
  unfold val
  have h : emptyReq.getD k [] = [] := by
    match k with
    | 0 => rfl
    | 1 => rfl
    | 2 => rfl
    | 3 => rfl
    | n + 4 => rfl
  rw [h]
  rfl
theorem req_ext {N M : Nat} {x y : Req} (ox : OkReq N x) (oy : OkReq M y) (h : ∀ k, k < 4 → ∀ f, val x k f = val y k f) : x = y := by
  refine List.ext_getElem (ox.1.trans oy.1.symm) fun k h1 h2 => ?_
  have sx := ox.2 k _ (List.getElem?_eq_getElem h1)
  have sy := oy.2 k _ (List.getElem?_eq_getElem h2)
  refine sec_ext (d := dft k) sx.asc sy.asc (fun p hp => okV_ne (sx.val p hp)) (fun p hp => okV_ne (sy.val p hp)) fun f => ?_
  have q := h k (by rw [← ox.1]; exact h1) f
  unfold val at q
  rw [List.getD_eq_getElem?_getD, List.getD_eq_getElem?_getD, List.getElem?_eq_getElem h1, List.getElem?_eq_getElem h2] at q
  exact q

/-! ### the order of requests -/
def RLt (m : List Str) (x y : Req) : Prop := ∃ k f, k < 4 ∧ CLt m (val x k f) (val y k f) ∧ (∀ k', k' < k → ∀ f', val x k' f' = val y k' f') ∧ ∀ f', SLt f' f → val x k f' = val y k f'
theorem rlt_irrefl {m : List Str} {x : Req} : ¬ RLt m x x := fun ⟨_, _, _, h, _⟩ => clt_irrefl h
theorem rlt_trans {N : Nat} {m : List Str} {x y z : Req} (ox : OkReq N x) (oy : OkReq N y) (oz : OkReq N z) (h : RLt m x y) (g : RLt m y z) : RLt m x z := by
  obtain ⟨k, f, hk, h1, h2, h3⟩ := h
  obtain ⟨l, e, hl, g1, g2, g3⟩ := g
  rcases Nat.lt_trichotomy k l with c | c | c
  · exact ⟨k, f, hk, by rw [← g2 k c]; exact h1, fun i hi f' => (h2 i hi f').trans (g2 i (Nat.lt_trans hi c) f'), fun f' hf => (h3 f' hf).trans (g2 k c f')⟩
  · subst c
    have lo : ∀ i, i < k → ∀ f', val x i f' = val z i f' := fun i hi f' => (h2 i hi f').trans (g2 i hi f')
    by_cases ef : f = e
    · subst ef
      exact ⟨k, f, hk, clt_trans hk (ox.val f) (oy.val f) (oz.val f) h1 g1, lo, fun f' hf => (h3 f' hf).trans (g3 f' hf)⟩
    · rcases slt_tri ef with l1 | l1
      · exact ⟨k, f, hk, by rw [← g3 f l1]; exact h1, lo, fun f' hf => (h3 f' hf).trans (g3 f' (slt_trans hf l1))⟩
      · exact ⟨k, e, hk, by rw [h3 e l1]; exact g1, lo, fun f' hf => (h3 f' (slt_trans hf l1)).trans (g3 f' hf)⟩
  · exact ⟨l, e, hl, by rw [h2 l c]; exact g1, fun i hi f' => (h2 i (Nat.lt_trans hi c) f').trans (g2 i hi f'), fun f' hf => (h2 l c f').trans (g3 f' hf)⟩
/-- r is the answer of a comparison whose order is L -/
def Tri {α : Type} (L : α → α → Prop) (x y : α) (r : Int) : Prop := (r = -1 ∧ L x y) ∨ (r = 1 ∧ L y x) ∨ (r = 0 ∧ x = y)
section
variable {α : Type} {L : α → α → Prop} {x y z : α} {a b c : Int}
theorem Tri.range (h : Tri L x y a) : a = -1 ∨ a = 0 ∨ a = 1 := by
  rcases h with ⟨h, _⟩ | ⟨h, _⟩ | ⟨h, _⟩ <;> omega
theorem Tri.flip (h : Tri L x y a) : Tri L y x (-a) := by
  rcases h with ⟨rfl, h⟩ | ⟨rfl, h⟩ | ⟨rfl, h⟩
  · exact .inr (.inl ⟨rfl, h⟩)
  · exact .inl ⟨rfl, h⟩
  · exact .inr (.inr ⟨rfl, h.symm⟩)
end
section
variable {N : Nat} {m : List Str} {x y z : Req} {a b c : Int}
theorem tri_zero (h : Tri (RLt m) x y a) : a = 0 ↔ x = y := by
  rcases h with ⟨rfl, h⟩ | ⟨rfl, h⟩ | ⟨rfl, h⟩
  · exact ⟨fun e => absurd e (by decide), fun e => by subst e; exact absurd h rlt_irrefl⟩
  · exact ⟨fun e => absurd e (by decide), fun e => by subst e; exact absurd h rlt_irrefl⟩
  · exact ⟨fun _ => h, fun _ => rfl⟩
theorem tri_same (ox : OkReq N x) (oy : OkReq N y) (h : Tri (RLt m) x y a) (g : Tri (RLt m) x y b) : a = b := by
  have no : RLt m x y → RLt m y x → False := fun p q => rlt_irrefl (rlt_trans ox oy ox p q)
  rcases h with ⟨rfl, h⟩ | ⟨rfl, h⟩ | ⟨rfl, h⟩
  · rcases g with ⟨rfl, g⟩ | ⟨rfl, g⟩ | ⟨rfl, g⟩
    · rfl
    · exact (no h g).elim
    · subst g; exact absurd h rlt_irrefl
  · rcases g with ⟨rfl, g⟩ | ⟨rfl, g⟩ | ⟨rfl, g⟩
    · exact (no g h).elim
    · rfl
    · subst g; exact absurd h rlt_irrefl
  · subst h
    exact ((tri_zero g).mpr rfl).symm
theorem tri_anti (ox : OkReq N x) (oy : OkReq N y) (h : Tri (RLt m) x y a) (g : Tri (RLt m) y x b) : a = -b := tri_same ox oy h g.flip
theorem tri_trans (ox : OkReq N x) (oy : OkReq N y) (oz : OkReq N z) (h : Tri (RLt m) x y a) (g : Tri (RLt m) y z b) (k : Tri (RLt m) x z c) (ha : a ≤ 0) (hb : b ≤ 0) : c ≤ 0 := by
  have no : RLt m z x → RLt m x z → False := fun p q => rlt_irrefl (rlt_trans oz ox oz p q)
  rcases k with ⟨rfl, k⟩ | ⟨rfl, k⟩ | ⟨rfl, k⟩
  · decide
  · exfalso
    rcases h with ⟨rfl, h⟩ | ⟨rfl, h⟩ | ⟨rfl, h⟩
    · rcases g with ⟨rfl, g⟩ | ⟨rfl, g⟩ | ⟨rfl, g⟩
      · exact no k (rlt_trans ox oy oz h g)
      · omega
      · subst g; exact no k h
    · omega
    · subst h
      rcases g with ⟨rfl, g⟩ | ⟨rfl, g⟩ | ⟨rfl, g⟩
      · exact no k g
      · omega
      · subst g; exact absurd k rlt_irrefl
  · decide
theorem tri_empty (ox : OkReq N x) (h : Tri (RLt m) emptyReq x a) : a = if x = emptyReq then 0 else -1 := by
  rcases h with ⟨rfl, h⟩ | ⟨rfl, h⟩ | ⟨rfl, h⟩
  · rw [if_neg fun e => by subst e; exact rlt_irrefl h]
  · obtain ⟨k, f, _, h, _⟩ := h
    rw [val_empty] at h
    exact absurd h not_clt_dft
  · rw [if_pos h.symm]
theorem tri_lt (ox : OkReq N x) (oy : OkReq N y) (l : RLt m x y) (h : Tri (RLt m) x y a) : a = -1 := tri_same ox oy h (.inl ⟨rfl, l⟩)
theorem tri_gt (ox : OkReq N x) (oy : OkReq N y) (l : RLt m x y) (h : Tri (RLt m) y x a) : a = 1 := tri_same oy ox h (.inr (.inl ⟨rfl, l⟩))
end

/-! ### what is earlier by one value -/
theorem rlt_set {m : List Str} {x : Req} {k : Nat} {s : Sec} {f : Str} (hk : k < 4) (hl : x.length = 4) (h1 : CLt m (look f (dft k) s) (val x k f)) (h2 : ∀ f', f' ≠ f → look f' (dft k) s = val x k f') : RLt m (x.set k s) x := by
  have hk' : k < x.length := by rw [hl]; exact hk
  have e : ∀ f', val (x.set k s) k f' = look f' (dft k) s := fun f' => by
    unfold val
    rw [List.getD_eq_getElem?_getD, List.getElem?_set_self hk']
    rfl
  refine ⟨k, f, hk, by rw [e]; exact h1, fun k' hk' f' => ?_, fun f' hf => ?_⟩
  · unfold val
    rw [List.getD_eq_getElem?_getD, List.getD_eq_getElem?_getD, List.getElem?_set_ne (Nat.ne_of_gt hk')]
  · rw [e]
    exact h2 f' fun z => by subst z; exact slt_irrefl _ hf
/-- the fields of a section one of whose pairs is left out, or has another value -/
theorem look_cut {f f' : Str} {d c : Cv} : ∀ {l r : Sec}, f' ≠ f → look f' d (l ++ r) = look f' d (l ++ (f, c) :: r)
  | [], r, h => by
    show look f' d r = if f = f' then c else look f' d r
    rw [if_neg fun e => h e.symm]
  | (g, e) :: l, r, h => by
    show (if g = f' then e else look f' d (l ++ r)) = if g = f' then e else look f' d (l ++ (f, c) :: r)
    rw [look_cut (l := l) h]
theorem look_put {f f' : Str} {d c c' : Cv} {l r : Sec} (h : f' ≠ f) : look f' d (l ++ (f, c') :: r) = look f' d (l ++ (f, c) :: r) := (look_cut h).symm.trans (look_cut h)
theorem asc_cut {f : Str} {c : Cv} {l r : Sec} (h : ((l ++ (f, c) :: r).map (·.1)).Pairwise SLt) : ((l ++ r).map (·.1)).Pairwise SLt := by
  refine List.Pairwise.sublist (List.Sublist.map _ ?_) h
  exact List.Sublist.append (List.Sublist.refl _) (List.sublist_cons_self _ _)
theorem fld_cut {f : Str} {c : Cv} {l r : Sec} (h : ((l ++ (f, c) :: r).map (·.1)).Pairwise SLt) : f ∉ (l ++ r).map (·.1) := by
  rw [List.map_append, List.map_cons] at h
  rw [List.map_append]
  intro e
  rcases List.mem_append.mp e with e | e
  · exact slt_irrefl f ((List.pairwise_append.mp h).2.2 f e f List.mem_cons_self)
  · exact slt_irrefl f ((List.pairwise_cons.mp (List.pairwise_append.mp h).2.1).1 f e)
theorem okSec_cut {N k : Nat} {f : Str} {c : Cv} {l r : Sec} (o : OkSec N k (l ++ (f, c) :: r)) : OkSec N k (l ++ r) := by
  have sub : ∀ p ∈ l ++ r, p ∈ l ++ (f, c) :: r := fun p hp => by
    rcases List.mem_append.mp hp with e | e
    · exact List.mem_append.mpr (.inl e)
    · exact List.mem_append.mpr (.inr (List.mem_cons_of_mem _ e))
  refine ⟨asc_cut o.asc, fun p hp => o.fld p (sub p hp), fun p hp => o.val p (sub p hp), ?_⟩
  have := o.len
  simp only [List.length_append, List.length_cons] at this ⊢
  omega
theorem okSec_put {N k : Nat} {f : Str} {c c' : Cv} {l r : Sec} (o : OkSec N k (l ++ (f, c) :: r)) (h : OkV N k c') : OkSec N k (l ++ (f, c') :: r) := by
  have em : (l ++ (f, c') :: r).map (·.1) = (l ++ (f, c) :: r).map (·.1) := by simp
  refine ⟨by rw [em]; exact o.asc, fun p hp => ?_, fun p hp => ?_, ?_⟩
  · rcases List.mem_append.mp hp with e | e
    · exact o.fld p (List.mem_append.mpr (.inl e))
    · rcases List.mem_cons.mp e with e | e
      · rw [e]; exact o.fld (f, c) (List.mem_append.mpr (.inr List.mem_cons_self))
      · exact o.fld p (List.mem_append.mpr (.inr (List.mem_cons_of_mem _ e)))
  · rcases List.mem_append.mp hp with e | e
    · exact o.val p (List.mem_append.mpr (.inl e))
    · rcases List.mem_cons.mp e with e | e
      · rw [e]; exact h
      · exact o.val p (List.mem_append.mpr (.inr (List.mem_cons_of_mem _ e)))
  · have := o.len
    simp only [List.length_append, List.length_cons] at this ⊢
    exact this
theorem val_at {N k : Nat} {x : Req} {f : Str} {c : Cv} {l r : Sec} (o : OkReq N x) (e : x[k]? = some (l ++ (f, c) :: r)) : val x k f = c := by
  unfold val
  rw [List.getD_eq_getElem?_getD, e]
  exact look_mem (o.2 k _ e).asc (List.mem_append.mpr (.inr List.mem_cons_self))
theorem okReq_set {N k : Nat} {x : Req} {s : Sec} (o : OkReq N x) (h : OkSec N k s) : OkReq N (x.set k s) := by
  refine ⟨by rw [List.length_set]; exact o.1, fun j t e => ?_⟩
  rw [List.getElem?_set] at e
  split at e
  · rename_i ejk
    subst ejk
    split at e
    · cases e; exact h
    · cases e
  · exact o.2 j t e
theorem rlt_cut {N k : Nat} {m : List Str} {x : Req} {f : Str} {c : Cv} {l r : Sec} (o : OkReq N x) (e : x[k]? = some (l ++ (f, c) :: r)) : OkReq N (x.set k (l ++ r)) ∧ RLt m (x.set k (l ++ r)) x := by
  have os := o.2 k _ e
  have hv : OkV N k c := os.val (f, c) (List.mem_append.mpr (.inr List.mem_cons_self))
  refine ⟨okReq_set o (okSec_cut os), rlt_set (f := f) (okV_lt hv) o.1 ?_ fun f' hf => ?_⟩
  · rw [look_not (fld_cut os.asc), val_at o e]
    exact dft_clt hv
  · unfold val
    rw [List.getD_eq_getElem?_getD, e]
    exact look_cut hf
theorem rlt_put {N k : Nat} {m : List Str} {x : Req} {f : Str} {c c' : Cv} {l r : Sec} (o : OkReq N x) (e : x[k]? = some (l ++ (f, c) :: r)) (hc : OkV N k c') (hl : CLt m c' c) :
    OkReq N (x.set k (l ++ (f, c') :: r)) ∧ RLt m (x.set k (l ++ (f, c') :: r)) x := by
  have os := o.2 k _ e
  have os' := okSec_put os hc
  refine ⟨okReq_set o os', rlt_set (f := f) (okV_lt hc) o.1 ?_ fun f' hf => ?_⟩
  · rw [look_mem os'.asc (List.mem_append.mpr (.inr List.mem_cons_self)), val_at o e]
    exact hl
  · unfold val
    rw [List.getD_eq_getElem?_getD, e]
    exact look_put hf
/-- the last part left out -/
theorem path_short {N : Nat} {m ps : List Str} (o : OkV N 1 (.path ps)) (h : ps.take (ps.length - 1) ≠ []) : OkV N 1 (.path (ps.take (ps.length - 1))) ∧ CLt m (.path (ps.take (ps.length - 1))) (.path ps) := by
  have hn : 0 < ps.length := List.length_pos_iff.mpr o.1
  refine ⟨⟨h, Nat.le_trans (List.length_take_le _ _) (by have := o.2.1; omega), fun p hp => o.2.2 p (List.mem_of_mem_take hp)⟩, ps.length - 1, ?_, fun j hj => ?_⟩
  · have e1 : (ps.take (ps.length - 1)).getD (ps.length - 1) Str.empty = Str.empty := by
      rw [List.getD_eq_getElem?_getD, List.getElem?_eq_none (by rw [List.length_take]; omega)]
      rfl
    have hl : ps.length - 1 < ps.length := by omega
    have e2 : ps.getD (ps.length - 1) Str.empty = ps[ps.length - 1] := by
      rw [List.getD_eq_getElem?_getD, List.getElem?_eq_getElem hl]
      rfl
    rw [e1, e2]
    exact blank_wlt (isW_ne (o.2.2 _ (List.getElem_mem hl)))
  · rw [List.getD_eq_getElem?_getD, List.getD_eq_getElem?_getD, List.getElem?_take, if_pos hj]
/-- a member left out -/
theorem set_less {N i : Nat} {m ws : List Str} (o : OkV N 2 (.set ws)) (hi : i < ws.length) (h : ws.take i ++ ws.drop (i + 1) ≠ []) :
    OkV N 2 (.set (ws.take i ++ ws.drop (i + 1))) ∧ CLt m (.set (ws.take i ++ ws.drop (i + 1))) (.set ws) := by
  have e : ws = ws.take i ++ ws[i] :: ws.drop (i + 1) := by
    rw [List.getElem_cons_drop, List.take_append_drop]
  have sub : (ws.take i ++ ws.drop (i + 1)).Sublist ws := by
    conv => rhs; rw [e]
    exact List.Sublist.append (List.Sublist.refl _) (List.sublist_cons_self _ _)
  have asc : ws.Pairwise SLt := o.2.2.1
  have nm : ws[i] ∉ ws.take i ++ ws.drop (i + 1) := by
    rw [e] at asc
    have p := List.pairwise_append.mp asc
    have x : (ws.take i ++ ws[i] :: ws.drop (i + 1))[i]'(by rw [← e]; exact hi) = ws[i] := by
      congr 1
      exact e.symm
    intro q
    rcases List.mem_append.mp q with q | q
    · exact slt_irrefl _ (p.2.2 _ q _ List.mem_cons_self)
    · exact slt_irrefl _ ((List.pairwise_cons.mp p.2.1).1 _ q)
  refine ⟨⟨h, Nat.le_trans sub.length_le o.2.1, asc.sublist sub, fun p hp => o.2.2.2 p (sub.subset hp)⟩, ws[i], List.getElem_mem hi, nm, fun v hv => ⟨fun q => sub.subset q, fun q => ?_⟩⟩
  rw [e] at q
  rcases List.mem_append.mp q with q | q
  · exact List.mem_append.mpr (.inl q)
  · rcases List.mem_cons.mp q with q | q
    · rw [q] at hv; exact absurd hv (wlt_irrefl _)
    · exact List.mem_append.mpr (.inr q)
theorem num_abs {N : Nat} {m : List Str} {n : Int} (o : OkV N 3 (.num n)) (h : (if n < 0 then -n else n) ≠ n) : OkV N 3 (.num (if n < 0 then -n else n)) ∧ CLt m (.num (if n < 0 then -n else n)) (.num n) := by
  have o' : n ≠ 0 := o
  constructor
  · show (if n < 0 then -n else n) ≠ 0
    split <;> omega
  · show NumLt (if n < 0 then -n else n) n
    unfold NumLt
    split <;> omega
/-! ### what compare_sets finds -/
theorem asc_ext : ∀ {xs ys : List Str}, xs.Pairwise SLt → ys.Pairwise SLt → (∀ w, w ∈ xs ↔ w ∈ ys) → xs = ys
  | [], [], _, _, _ => rfl
  | [], y :: r, _, _, h => nomatch (h y).mpr List.mem_cons_self
  | x :: r, [], _, _, h => nomatch (h x).mp List.mem_cons_self
  | x :: r, y :: t, p, q, h => by
    obtain ⟨p1, p2⟩ := List.pairwise_cons.mp p
    obtain ⟨q1, q2⟩ := List.pairwise_cons.mp q
    have e : x = y := by
      rcases List.mem_cons.mp ((h x).mp List.mem_cons_self) with z | z
      · exact z
      · rcases List.mem_cons.mp ((h y).mpr List.mem_cons_self) with z2 | z2
        · exact z2.symm
        · exact absurd (slt_trans (p1 y z2) (q1 x z)) (slt_irrefl x)
    subst e
    have er : r = t := asc_ext p2 q2 fun w => by
      constructor
      · intro hw
        rcases List.mem_cons.mp ((h w).mp (List.mem_cons_of_mem _ hw)) with z | z
        · subst z; exact absurd (p1 w hw) (slt_irrefl w)
        · exact z
      · intro hw
        rcases List.mem_cons.mp ((h w).mpr (List.mem_cons_of_mem _ hw)) with z | z
        · subst z; exact absurd (q1 w hw) (slt_irrefl w)
        · exact z
    rw [er]
/-- what is known when the words of Pd have been looked at: found and last -/
def SJ (m xs ys : List Str) (Pd : Str → Prop) (found : Int) (last : Pl) : Prop :=
  (found = 0 ∧ last = (0, 0) ∧ ∀ v, ¬ Pd v) ∨
    ∃ u, Pd u ∧ last = place m u ∧ (∀ v, Pd v → ¬ WLt m u v) ∧ ((found = 1 ∧ u ∈ xs ∧ u ∉ ys) ∨ (found = -1 ∧ u ∈ ys ∧ u ∉ xs))
theorem SJ.congr {m xs ys : List Str} {P Q : Str → Prop} {f : Int} {l : Pl} (h : SJ m xs ys P f l) (e : ∀ v, P v ↔ Q v) : SJ m xs ys Q f l := by
  have : P = Q := funext fun v => propext (e v)
  rw [← this]
  exact h
/-- a word that only one of them has, later than the last one -/
theorem SJ.up {m xs ys : List Str} {P : Str → Prop} {f r : Int} {l : Pl} {x : Str} (h : SJ m xs ys P f l) (hl : PLt l (place m x)) (hr : (r = 1 ∧ x ∈ xs ∧ x ∉ ys) ∨ (r = -1 ∧ x ∈ ys ∧ x ∉ xs)) : SJ m xs ys (fun v => P v ∨ v = x) r (place m x) := by
  refine .inr ⟨x, .inr rfl, rfl, fun v hv g => ?_, hr⟩
  rcases hv with hv | hv
  · rcases h with ⟨_, _, h⟩ | ⟨u, _, rfl, h2, _⟩
    · exact h v hv
    · exact h2 v hv (plt_trans hl g)
  · subst hv
    exact wlt_irrefl _ g
/-- .. not later -/
theorem SJ.stay {m xs ys : List Str} {P : Str → Prop} {f : Int} {l : Pl} {x : Str} (h : SJ m xs ys P f l) (hl : ¬ PLt l (place m x)) (hx : x ≠ Str.empty) : SJ m xs ys (fun v => P v ∨ v = x) f l := by
  rcases h with ⟨_, rfl, h⟩ | ⟨u, h1, rfl, h2, h3⟩
  · exact absurd (by have := blank_wlt (m := m) hx; unfold WLt at this; rwa [place_blank] at this) hl
  · refine .inr ⟨u, .inl h1, rfl, fun v hv g => ?_, h3⟩
    rcases hv with hv | hv
    · exact h2 v hv g
    · subst hv
      exact hl g
theorem SJ.tri {m xs ys : List Str} {f : Int} {l : Pl} (hx : xs.Pairwise SLt) (hy : ys.Pairwise SLt) (h : SJ m xs ys (fun v => (v ∈ xs ∧ v ∉ ys) ∨ (v ∈ ys ∧ v ∉ xs)) f l) : Tri (SetLt m) xs ys f := by
  rcases h with ⟨rfl, _, h⟩ | ⟨u, h1, _, h2, ⟨rfl, h3, h4⟩ | ⟨rfl, h3, h4⟩⟩
  · refine .inr (.inr ⟨rfl, asc_ext hx hy fun v => ?_⟩)
    have := h v
    by_cases c1 : v ∈ xs <;> by_cases c2 : v ∈ ys <;> simp_all
  · refine .inr (.inl ⟨rfl, u, h3, h4, fun v hv => ?_⟩)
    have := fun z => h2 v z hv
    by_cases c1 : v ∈ xs <;> by_cases c2 : v ∈ ys <;> simp_all
  · refine .inl ⟨rfl, u, h3, h4, fun v hv => ?_⟩
    have := fun z => h2 v z hv
    by_cases c1 : v ∈ xs <;> by_cases c2 : v ∈ ys <;> simp_all
/-! ### numbers, paths -/
def absI (n : Int) : Int := if n < 0 then -n else n
theorem path_ext {xs ys : List Str} (hx : ∀ p ∈ xs, IsW p) (hy : ∀ p ∈ ys, IsW p) (h : ∀ j : Nat, xs.getD j Str.empty = ys.getD j Str.empty) : xs = ys := by
  have key : ∀ {l k : List Str}, (∀ p ∈ l, IsW p) → (∀ j : Nat, l.getD j Str.empty = k.getD j Str.empty) → l.length ≤ k.length := fun {l k} hl he => by
    rcases Nat.lt_or_ge k.length l.length with c | c
    · exfalso
      have e := he k.length
      rw [List.getD_eq_getElem?_getD, List.getD_eq_getElem?_getD, List.getElem?_eq_getElem c, List.getElem?_eq_none (Nat.le_refl _)] at e
      exact isW_ne (hl _ (List.getElem_mem c)) e
    · exact c
  have hl : xs.length = ys.length := Nat.le_antisymm (key hx h) (key hy fun j => (h j).symm)
  refine List.ext_getElem hl fun j h1 h2 => ?_
  have e := h j
  rw [List.getD_eq_getElem?_getD, List.getD_eq_getElem?_getD, List.getElem?_eq_getElem h1, List.getElem?_eq_getElem h2] at e
  exact e
end K9
/-! Sets of texts, over the exact payload that Froz.add_x tells: which texts are in, and that the table keeps its order. -/
namespace K9S
open PySem PySem.Spec PyProof.Rows L2
/-! ### lists without repeats -/
/-- the members' list with one more -/
def addL (k : PySem.Str) (L : List PySem.Str) : List PySem.Str := if k ∈ L then L else k :: L
theorem addL_in {k : PySem.Str} {L : List PySem.Str} (h : k ∈ L) : addL k L = L := by
  unfold addL
  rw [if_pos h]
theorem addL_out {k : PySem.Str} {L : List PySem.Str} (h : k ∉ L) : addL k L = k :: L := by
  unfold addL
  rw [if_neg h]
theorem mem_addL {k x : PySem.Str} {L : List PySem.Str} : x ∈ addL k L ↔ x = k ∨ x ∈ L := by
  by_cases h : k ∈ L
  · rw [addL_in h]
    exact ⟨.inr, fun q => q.elim (fun e => e ▸ h) id⟩
  · rw [addL_out h]
    exact List.mem_cons
theorem nodup_addL {k : PySem.Str} {L : List PySem.Str} (n : L.Nodup) : (addL k L).Nodup := by
  by_cases h : k ∈ L
  · rw [addL_in h]
    exact n
  · rw [addL_out h]
    exact List.nodup_cons.mpr ⟨h, n⟩
theorem length_addL (k : PySem.Str) (L : List PySem.Str) : (addL k L).length ≤ L.length + 1 := by
  by_cases h : k ∈ L
  · rw [addL_in h]
    exact Nat.le_succ _
  · rw [addL_out h]
    exact Nat.le_refl _
/-- as long as a list without repeats, and with all of its members: the same in another order -/
theorem perm_of_all {α : Type} [BEq α] [LawfulBEq α] : ∀ (L K : List α), L.Nodup → (∀ x ∈ L, x ∈ K) → K.length = L.length → K.Perm L
  | [], K, _, _, e => by
    rw [List.length_eq_zero_iff.mp e]
  | x :: r, K, n, h, e => by
    have hx : x ∈ K := h x (by simp)
    have n2 := List.nodup_cons.mp n
    refine (List.perm_cons_erase hx).trans (List.Perm.cons x (perm_of_all r (K.erase x) n2.2 (fun y hy => ?_) ?_))
    · have ne : y ≠ x := fun q => n2.1 (q ▸ hy)
      exact (List.mem_erase_of_ne ne).mpr (h y (by simp [hy]))
    · rw [List.length_erase_of_mem hx, e]
      rfl
/-! ### the table -/
/-- the payload D holds the texts L, each once; its places rise; its order is told or is the text's -/
structure TabS (w : World) (D : Froz.SD) (L : List PySem.Str) : Prop where
  ok : ∀ P : Program, Froz.TxOk P w D L
  nd : L.Nodup
  few : L.length < scanBound
  ris : Ris D.2.2.place.toList
  led : w.params.followText "set-order" = true ∨ D.2.2.led = true
/-- what both the laying of a new text and the laying anew keep, the add keeps -/
theorem addTx_keeps {Φ : SetTable → Prop} (off : ∀ t, Φ t → Φ { t with plain := false }) (rel : ∀ t es n, Φ t → Φ (relayAll t es n).2.1) {h : Int} {v : Value} {D : Froz.SD} (new : Φ (layNew D.2.2 D.1 h v).2.1) : Φ (Froz.addTx h v D).2.2 := by
  have one : Φ (if (layNew D.2.2 D.1 h v).2.1.plain = true then { (layNew D.2.2 D.1 h v).2.1 with plain := false } else (layNew D.2.2 D.1 h v).2.1) := by
    by_cases c : (layNew D.2.2 D.1 h v).2.1.plain = true
    · rw [if_pos c]
      exact off _ new
    · rwa [if_neg c]
  unfold Froz.addTx Froz.tailTx
  generalize (if (layNew D.2.2 D.1 h v).2.1.plain = true then { (layNew D.2.2 D.1 h v).2.1 with plain := false } else (layNew D.2.2 D.1 h v).2.1) = t at one ⊢
  by_cases c : (!(layNew D.2.2 D.1 h v).2.2.1 && t.tooFull) = true
  · rw [if_pos c]
    exact rel _ _ _ one
  · rwa [if_neg c]
section
variable {w : World} {D : Froz.SD} {L : List PySem.Str} {k : PySem.Str}
theorem TabS.none (w : World) : TabS w (#[], 0, .fresh 0 0 (!w.params.followText "set-order")) [] where
  ok := fun P => Froz.TxOk.nil rfl
  nd := .nil
  few := by decide
  ris := .nil
  led := by
    show _ ∨ (!_) = true
    cases w.params.followText "set-order" <;> simp
theorem TabS.add (T : TabS w D L) (tk : Tok) (h : k ∉ L) (room : L.length + 1 < scanBound) : TabS w (Froz.addTx (hashStr w k) (.str k tk) D) (k :: L) where
  ok := fun P => Froz.add_ok tk (T.ok P)
  nd := List.nodup_cons.mpr ⟨h, T.nd⟩
  few := room
  ris := addTx_keeps (Φ := fun t => Ris t.place.toList) (fun _ r => r) (fun t es n _ => relayAll_ris t es n) (layNew_ris _ _ _ _ T.ris)
  led := T.led.imp id fun q => addTx_keeps (Φ := fun t => t.led = true) (fun _ r => r) (fun t es n r => (relayAll_led t es n).trans r) ((layNew_led _ _ _ _).trans q)
/-- the text in an entry -/
def textOf (v : Value) : PySem.Str := match v with
  | .str x _ => x
  | _ => PySem.Str.empty
theorem TabS.text {P : Program} (T : TabS w D L) {e : Int × Value} (he : e ∈ D.1.toList) : ∃ x tk, e.2 = .str x tk ∧ x ∈ L := by
  obtain ⟨⟨x, hx, _⟩, _⟩ := (T.ok P).el e he
  obtain ⟨tk, q⟩ := Value.isStrOf_shape (x := x) (v := e.2) hx
  exact ⟨x, tk, q, ((T.ok P).mem x).mpr ⟨e, he, hx⟩⟩
theorem TabS.perm {P : Program} (T : TabS w D L) : (D.1.toList.map fun e => textOf e.2).Perm L := by
  refine perm_of_all L _ T.nd (fun x hx => ?_) ?_
  · obtain ⟨e, he, q⟩ := ((T.ok P).mem x).mp hx
    obtain ⟨tk, q2⟩ := Value.isStrOf_shape (x := x) (v := e.2) q
    exact List.mem_map.mpr ⟨e, he, by rw [q2]; rfl⟩
  · rw [List.length_map, Array.length_toList]
    exact (T.ok P).sz
theorem TabS.small {P : Program} (T : TabS w D L) : D.1.size < scanBound := by
  rw [(T.ok P).sz]
  exact T.few
end
/-! ### in the heap -/
/-- the set of texts at a: its members are L -/
def SetS (w : World) (h : Heap) (a : Addr) (L : List PySem.Str) : Prop := ∃ D, h.get? a = some (Froz.sObj "set" D) ∧ TabS w D L
theorem SetS.at {w : World} {h h' : Heap} {a : Addr} {L : List PySem.Str} (R : SetS w h a L) (k : ∀ o, h.get? a = some o → h'.get? a = some o) : SetS w h' a L :=
  let ⟨D, ho, T⟩ := R
  ⟨D, k _ ho, T⟩
/-- a set as it is made -/
abbrev newSetObj (w : World) : Obj := { cls := .type "set", dict := none, data := .set #[] 0 (.fresh 0 0 (!w.params.followText "set-order")) }
theorem setS_fresh {w : World} {h : Heap} {a : Addr} (ho : h.get? a = some (newSetObj w)) : SetS w h a [] := ⟨(#[], 0, .fresh 0 0 (!w.params.followText "set-order")), ho, TabS.none w⟩
section
variable {P : Program} {w : World} {A : Around} {E : Value → Shared → Prop} {s : Shared} {a : Addr} {L : List PySem.Str}
/-- a text that is in already: the scan meets it -/
theorem add_met {k : PySem.Str} {tk : Tok} {Q : Bool → Shared → Prop} {D : Froz.SD} (ho : s.heap.get? a = some (Froz.sObj "set" D)) (T : TabS w D L) (h : k ∈ L) (q : Q false s) :
    wpAny (model P w) A (setAddHashed a (.str k tk) (hashStr w k)) Q E s := by
  have F := T.ok P
  obtain ⟨e, he, hp⟩ := (F.mem k).mp h
  have hs : byScan (.str k tk) D.1 = true := byScan_of rfl (T.small (P := P)) F.el
  unfold setAddHashed setAddHashedIn
  refine wpAny_holding (wpAny_bind (wpAny_setState_of ho rfl F.fit ?_))
  simp only [hs, ↓reduceIte]
  unfold setAddByScan
  refine wpAny_bind (wpAny_bind (wpAny_rule (wpAny_bind (wpAny_setScan_of (knd := PySem.strKind P w) (Froz.is_str k tk) ho rfl F.fit F.el ?_))))
  cases c : List.findIdx? (fun e => (PySem.strKind P w).is k e.2) D.1.toList with
  | none =>
    have z := List.findIdx?_eq_none_iff.mp c e he
    exact absurd (z.symm.trans hp) (by decide)
  | some j => exact wpAny_pure (wpAny_pure q)
/-- the add, the hash known -/
theorem add_hashedS {k : PySem.Str} {tk : Tok} {Q : Bool → Shared → Prop} (R : SetS w s.heap a L) (room : L.length + 1 < scanBound)
    (hQ : ∀ b h', Heap.SameBut a s.heap h' → SetS w h' a (addL k L) → Q b { s with heap := h' }) : wpAny (model P w) A (setAddHashed a (.str k tk) (hashStr w k)) Q E s := by
  obtain ⟨D, ho, T⟩ := R
  by_cases h : k ∈ L
  · refine add_met ho T h (hQ _ s.heap (.refl a _) ?_)
    rw [addL_in h]
    exact ⟨D, ho, T⟩
  · refine Froz.add_x ho (T.ok P) h room (hQ _ _ (.update _ a _) ?_)
    rw [addL_out h]
    exact ⟨_, Froz.get_upd _ ho rfl, T.add tk h room⟩
/-- a.add(k) with the hash to be made -/
theorem set_addS {k : PySem.Str} {tk : Tok} {Q : Bool → Shared → Prop} (R : SetS w s.heap a L) (room : L.length + 1 < scanBound)
    (hQ : ∀ b h', Heap.SameBut a s.heap h' → SetS w h' a (addL k L) → Q b { s with heap := h', toks := s.toks + 1 }) : wpAny (model P w) A (setAdd a (.str k tk)) Q E s := by
  unfold setAdd
  exact wpAny_holding (wpAny_bind ((PySem.strKind P w).pyHash (Froz.is_str k tk) (add_hashedS (s := { s with toks := s.toks + 1 }) R room hQ)))
/-- the method called -/
theorem addS {k : PySem.Str} {tk : Tok} {Q : Value → Shared → Prop} (R : SetS w s.heap a L) (room : L.length + 1 < scanBound)
    (hQ : ∀ h', Heap.SameBut a s.heap h' → SetS w h' a (addL k L) → Q .none { s with heap := h', toks := s.toks + 1 }) : wpAny (model P w) A (call (.builtin "set.add") [.ref a, .str k tk]) Q E s := by
  have ⟨_, ho, _⟩ := R
  refine wpAny_call_entry F.slot_set_add ⟨_, ho, rfl⟩ F.entry_set_add ?_ (F.args_set_add_2 _ _)
  simp only [Builtin.«set.add», Builtin.Frozenset.oneOther, Builtin.Frozenset.addrOf, List.isEmpty_nil, bind_assoc]
  repeat (refine wpAny_bind (wpAny_pure ?_); try dsimp only)
  exact wpAny_bind (set_addS R room fun _ h' sb r => wpAny_pure ⟨_, rfl, hQ h' sb r⟩)
end
end K9S
/-! set(l), l a list of texts. -/
namespace K9S
open PySem PySem.Spec PyProof.Rows L2
/-- the members that the items give -/
def addsL (xs : List PySem.Str) : List PySem.Str := xs.foldl (fun L k => addL k L) []
theorem addsL_step (xs : List PySem.Str) (k : PySem.Str) : addsL (xs ++ [k]) = addL k (addsL xs) := by
  unfold addsL
  rw [List.foldl_append]
  rfl
/-- what holds of no members and is kept by each step holds of all -/
theorem addsL_ind {Φ : List PySem.Str → List PySem.Str → Prop} (h0 : Φ [] []) (h1 : ∀ xs k L, Φ xs L → Φ (xs ++ [k]) (addL k L)) (xs : List PySem.Str) : Φ xs (addsL xs) := by
  have go : ∀ (r p L : List PySem.Str), Φ p L → Φ (p ++ r) (r.foldl (fun L k => addL k L) L) := by
    intro r
    induction r with
    | nil => exact fun p L h => by rwa [List.append_nil]
    | cons k r ih =>
      intro p L h
      have z := ih (p ++ [k]) (addL k L) (h1 p k L h)
      rwa [List.append_assoc] at z
  exact go xs [] [] h0
theorem mem_addsL (xs : List PySem.Str) (x : PySem.Str) : x ∈ addsL xs ↔ x ∈ xs :=
  addsL_ind (Φ := fun ys L => x ∈ L ↔ x ∈ ys) Iff.rfl (fun ys k L h => by rw [mem_addL, h, List.mem_append, List.mem_singleton]; exact Or.comm) xs
theorem nodup_addsL (xs : List PySem.Str) : (addsL xs).Nodup := addsL_ind (Φ := fun _ L => L.Nodup) .nil (fun _ _ _ => nodup_addL) xs
theorem length_addsL (xs : List PySem.Str) : (addsL xs).length ≤ xs.length :=
  addsL_ind (Φ := fun ys L => L.length ≤ ys.length) (Nat.le_refl 0) (fun ys k L h => by
    have := length_addL k L
    rw [List.length_append]
    show _ ≤ ys.length + 1
    omega) xs
section
variable {P : Program} {w : World} {A : Around} {E : Value → Shared → Prop} {s : Shared}
/-- the loop of set.update by any law Φ of the set's object, one add a turn -/
theorem update_by {I D : Addr} {fp wr : List Addr} {G : Array GenState → Array GenState → Prop} {n : Nat} {Pv : Nat → Value → Prop} {St : Nat → Shared → Prop} {R : Result → Shared → Prop} (W : WalksS P w A.in1 I fp wr G n Pv St) (out : D ∉ fp)
    (Φ : Nat → Heap → Prop) (stay : ∀ i h h', Φ i h → (∀ o, h.get? D = some o → h'.get? D = some o) → Φ i h')
    (turn : ∀ i v (s : Shared) (Q : Bool → Shared → Prop), i < n → Pv i v → Φ i s.heap → (∀ b h', Heap.SameBut D s.heap h' → Φ (i + 1) h' → Q b { s with heap := h', toks := s.toks + 1 }) → wpAny (model P w) A.in1 (setAdd D v) Q (fun e s' => R (.error e) s') s) :
    ∀ (m i : Nat) (s : Shared), i + m = n → St i s → Φ i s.heap → (∀ s', Moved (D :: wr) G s s' → Φ n s'.heap → R (.ok (.ret .none)) s') → codeAny (model P w) A (.builtin "set.update.loop" ⟨[.ref D, .ref I], []⟩) R s
  | m, i, s, e, st, f, q => by
    have far : ∀ b ∈ fp, b ≠ D := fun b hb z => out (z ▸ hb)
    have hD : D ∉ wr := fun z => out (W.sub _ z)
    have wide : ∀ {s'}, Moved wr G s s' → Moved (D :: wr) G s s' := fun mv => mv.mono fun b hb => .tail _ hb
    refine codeAny_builtin F.entry_set_update_loop ?_
    rw [Around.under_plainId F.plain_set_update_loop _]
    unfold Builtin.«set.update.loop»
    match m with
    | 0 =>
      subst e
      exact wpAny_bind (W.done s _ _ st fun s' mv => wpAny_pure (q s' (wide mv) (stay _ _ _ f fun o => mv.heap D o hD)))
    | m + 1 =>
      refine wpAny_bind (W.item i s _ _ (by omega) st fun v s1 pv st1 mv => ?_)
      refine wpAny_bind (wpAny_holding (turn i v s1 _ (by omega) pv (stay _ _ _ f fun o => mv.heap D o hD) fun b h2 sb f2 => ?_))
      have st2 := W.frame _ s1 h2 (s1.toks + 1) st1 (Nat.le_succ _) fun b hb o z => (sb.2 b (far b hb)).trans z
      have mv2 := (wide mv).then_heap (h' := h2) (tk := s1.toks + 1) (Nat.le_succ _) fun b o hb z => (sb.2 b fun y => hb (y ▸ .head _)).trans z
      exact wpAny_pure ⟨plainId_quiet F.plain_set_update_loop _, update_by W out Φ stay turn m (i + 1) _ (by omega) st2 f2 fun s3 mv3 => q s3 (mv2.trans W.gtrans mv3)⟩
/-- a type called: its __new__ and its __init__, each as a code -/
theorem type_call {T nid iid : String} {args : List Value} {Q N : Value → Shared → Prop} (t : TypeCalled T nid iid) (fits : checkTypeCall T ⟨args, []⟩ = pure ()) (new : codeAny (model P w) A.in1 (.call (.builtin nid) ⟨.type T :: args, []⟩) (wants N E) s)
    (init : ∀ o s1, N o s1 → s1.TypeIs o T ∧ codeAny (model P w) A.in1 (.call (.builtin iid) ⟨o :: args, []⟩) (wants (fun r s2 => r = .none ∧ Q o s2) E) s1) : wpAny (model P w) A (call (.type T) args) Q E s := by
  have ⟨_, _, line⟩ := t.mro
  have nt := t.notType
  have cc := t.canCreate
  have md := t.made
  have sb := t.sub
  refine wpAny_call (codeAny_of_tree (wpAny_pure ⟨Code.quiet_builtin _ (by decide +kernel), codeAny_builtin F.entry_type_call ?_⟩))
  rw [Around.under_plain (weight_type_call_type T args []) rfl]
  repeat' (first | assumption | wp_step)
  refine codeAny_mono new ?_
  rintro (e | f) s1 got
  · exact got
  · cases f with
    | ret o =>
      have ⟨is, run⟩ := init _ _ got
      have lk := t.init.lookup
      have bd := t.init.bind o
      repeat' (first | assumption | wp_step)
      refine codeAny_mono run ?_
      rintro (e | f) s2 end_
      · exact end_
      · cases f with
        | ret r =>
          obtain ⟨rfl, q⟩ := end_
          repeat' (first | assumption | wp_step)
        | _ => exact end_.elim
    | _ => exact got.elim
end
end K9S
namespace K9S
open PySem PySem.Spec PyProof.Rows L2
section
variable {P : Program} {w : World} {A : Around} {E : Value → Shared → Prop} {s : Shared}
theorem not_two {a b c : Addr} (h : a ≠ b) (g : a ≠ c) : a ∉ [b, c] := by simp [h, g]
/-- set(l) of any list: Φ holds of a set as it is made, and each item's add brings it one on -/
theorem call_set_by {l : Addr} {items : Array Value} {Q : Value → Shared → Prop} (hh : A.handled = none) (hl : s.heap.IsList l items) (Φ : Nat → Heap → Prop)
    (stay : ∀ i h h', Φ i h → (∀ o, h.get? s.heap.objs.size = some o → h'.get? s.heap.objs.size = some o) → Φ i h') (fresh : ∀ h : Heap, h.get? s.heap.objs.size = some (newSetObj w) → Φ 0 h)
    (turn : ∀ (A : Around) (E : Value → Shared → Prop) i v (s1 : Shared) (Q : Bool → Shared → Prop), i < items.size → items[i]? = some v → Φ i s1.heap →
      (∀ b h', Heap.SameBut s.heap.objs.size s1.heap h' → Φ (i + 1) h' → Q b { s1 with heap := h', toks := s1.toks + 1 }) → wpAny (model P w) A (setAdd s.heap.objs.size v) Q E s1)
    (h : ∀ (h' : Heap) (tk : Nat), Φ items.size h' → (∀ b o, s.heap.get? b = some o → h'.get? b = some o) → Q (.ref s.heap.objs.size) { s with heap := h', toks := tk }) : wpAny (model P w) A (call (.type "set") [.ref l]) Q E s := by
  refine type_call (N := fun o s1 => o = .ref s.heap.objs.size ∧ s1 = { s with heap := s.heap.push (newSetObj w) }) F.called_set (F.typeCall_set_1 _) (code_set_led1 _ ⟨rfl, rfl⟩) ?_
  rintro _ _ ⟨rfl, rfl⟩
  have made : (s.heap.push (newSetObj w)).get? s.heap.objs.size = some (newSetObj w) := Heap.get?_push_size _ rfl
  refine ⟨⟨_, made, rfl⟩, codeAny_call_builtin F.called_set.init.plain F.entry_set_init (check_set_init_1 ⟨_, made, rfl⟩ ?_)⟩
  have old : l < s.heap.objs.size := by
    have ⟨_, z, _⟩ := hl
    exact Heap.lt_size z
  have list : (s.heap.push (newSetObj w)).IsList l items := hl.push _
  have ⟨lo, there, cls, _, dat⟩ := list
  have size1 : (s.heap.push (newSetObj w)).objs.size = s.heap.objs.size + 1 := Heap.size_push _ _
  have n1 := F.sub_list_set
  have n2 := F.sub_list_frozenset
  have n3 : (Value.type "list" == Value.type "dict") = false := by decide
  unfold Builtin.«set.__init__» noKeywords Builtin.Frozenset.updateFrom
  generalize gen : pyIter = iter
  obtain ⟨c, d, a, sl⟩ := lo
  cases cls
  cases dat
  wp_walk
  subst gen
  refine wpAny_pyIter_list list (wpAny_bind (wpAny_runValue ?_))
  have ne : l ≠ (s.heap.push (newSetObj w)).objs.size := by rw [size1]; exact Nat.ne_of_lt (Nat.lt_succ_of_lt old)
  refine update_by (Walks.list (by simp [hh]) _ l ne items).toS (D := s.heap.objs.size) (not_two (by rw [size1]; exact Nat.ne_of_lt (Nat.lt_succ_self _)) (Nat.ne_of_gt old)) Φ stay (fun i v s1 Q hi hv => turn _ _ i v s1 Q hi hv) items.size 0 _ (by omega) ⟨⟨_, Heap.get?_push_size _ rfl, rfl, rfl⟩, list.push _⟩ (fresh _ (Heap.get?_push_of_some _ made)) ?_
  rintro ⟨h', g, dr, tk, os⟩ mv fin
  cases mv.gens
  cases mv.drawn
  cases mv.os
  refine wpAny_pure (wpAny_pure ⟨rfl, h h' tk fin fun b o e => ?_⟩)
  have hb := Heap.lt_size e
  exact mv.heap b o (not_two (Nat.ne_of_lt hb) (by rw [size1]; exact Nat.ne_of_lt (Nat.lt_succ_of_lt hb))) (Heap.get?_push_of_some _ (Heap.get?_push_of_some _ e))
theorem strs_get : ∀ {us : List Value} {xs : List PySem.Str}, StrsAre us xs → ∀ (i : Nat) (v : Value), us[i]? = some v → ∃ k t, xs[i]? = some k ∧ v = .str k t
  | _, _, .cons n t _, 0, _, h => ⟨n, t, rfl, (Option.some.inj h).symm⟩
  | _, _, .cons _ _ r, i + 1, v, h => strs_get r i v h
/-- set(l), l a list of texts -/
theorem call_setS {l : Addr} {items : Array Value} (xs : List PySem.Str) {Q : Value → Shared → Prop} (hh : A.handled = none) (hl : s.heap.IsList l items) (hit : StrsAre items.toList xs) (few : xs.length + 1 < scanBound)
    (h : ∀ (h' : Heap) (tk : Nat), SetS w h' s.heap.objs.size (addsL xs) → (∀ b o, s.heap.get? b = some o → h'.get? b = some o) → Q (.ref s.heap.objs.size) { s with heap := h', toks := tk }) :
    wpAny (model P w) A (call (.type "set") [.ref l]) Q E s := by
  have len : items.size = xs.length := by rw [← StrsAre.len_eq hit, Array.length_toList]
  refine call_set_by hh hl (fun i h => SetS w h s.heap.objs.size (addsL (xs.take i))) (fun _ _ _ R k => R.at k) (fun _ z => setS_fresh z) (fun A E i v s1 Q hi hv R q => ?_) fun h' tk R k => h h' tk ?_ k
  · obtain ⟨k, t, hk, rfl⟩ := strs_get hit i v (by rwa [Array.getElem?_toList])
    have step : addsL (xs.take (i + 1)) = addL k (addsL (xs.take i)) := by
      rw [List.take_add_one, hk]
      exact addsL_step _ _
    rw [step] at q
    have m := length_addsL (xs.take i)
    rw [List.length_take] at m
    exact set_addS R (by omega) q
  · rwa [List.take_of_length_le (by omega)] at R
end
end K9S
/-! sorted(a), a a set of texts; both calls as rules. -/
namespace K9S
open PySem PySem.Spec PyProof.Rows L2
abbrev Up (l : List PySem.Str) : Prop := l.Pairwise fun x y => x.cps.toList < y.cps.toList
/-- in order and each once: rising -/
theorem up_of : ∀ {l : List PySem.Str}, sortedS l = true → l.Nodup → Up l
  | [], _, _ => .nil
  | [_], _, _ => List.pairwise_singleton _ _
  | x :: y :: r, h, n => by
    have hd : (!ltCps y.cps.toList x.cps.toList && risingS y r) = true := h
    rw [Bool.and_eq_true, ltCps_eq, Bool.not_eq_true', decide_eq_false_iff_not] at hd
    have rest : Up (y :: r) := up_of hd.2 (List.nodup_cons.mp n).2
    have xy : x.cps.toList < y.cps.toList := by
      by_cases c : x.cps.toList < y.cps.toList
      · exact c
      · refine absurd ?_ (List.nodup_cons.mp n).1
        have e : x = y := congrArg PySem.Str.mk (Array.ext' (List.le_antisymm hd.1 c))
        rw [e]
        exact .head _
    refine .cons (fun z hz => ?_) rest
    cases hz with
    | head => exact xy
    | tail _ hz => exact List.lt_trans xy ((List.pairwise_cons.mp rest).1 z hz)
theorem strs_of : ∀ {l : List Value}, (∀ v ∈ l, ∃ k tk, v = Value.str k tk) → StrsAre l (l.map textOf)
  | [], _ => .nil
  | v :: r, h => by
    obtain ⟨k, tk, rfl⟩ := h v (.head _)
    exact .cons k tk (strs_of fun x hx => h x (.tail _ hx))
section
variable {P : Program} {w : World} {A : Around} {E : Value → Shared → Prop} {s : Shared} {a : Addr} {L : List PySem.Str}
/-- a list of texts is laid and sorted: all else stays -/
theorem lay_sorted {β : Type} {f : Value → Sem β} {vs : List Value} {ss : List PySem.Str} {Q : β → Shared → Prop} (t : StrsAre vs ss) (few : vs.length < 64)
    (q : ∀ (h' : Heap) (out : Array Value) (c : Nat) (ys : List PySem.Str), (∀ b o, s.heap.get? b = some o → h'.get? b = some o) → h'.get? s.heap.objs.size = some (seqObj "list" out c) → StrsAre out.toList ys → ys.Perm ss → sortedS ys = true →
      wpAny (model P w) A (f (.ref s.heap.objs.size)) Q E { s with heap := h' }) : wpAny (model P w) A (newList vs >>= fun l => holding [l] (call (.builtin "list.sort") [l] []) >>= fun _ => f l) Q E s := by
  have made : (s.heap.push (seqObj "list" vs.toArray 0)).get? s.heap.objs.size = some (seqObj "list" vs.toArray 0) := Heap.get?_push_size _ rfl
  refine wpAny_bind (wpAny_newList (wpAny_bind (wpAny_holding (wpAny_call_entry slot_list_sort ⟨_, made, rfl⟩ entry_list_sort ?_ (args_list_sort _)))) (by rw [sizeLine_eq]; omega))
  refine list_sort_treeK strKind_oneLt made t.keysOf (fun _ _ _ e => keyKind_strs (e ▸ t)) few fun st p o => ⟨_, rfl, ?_⟩
  obtain ⟨ys, y1, y2, y3⟩ := sorted_out_str t p o
  obtain ⟨c, at_⟩ := sortedHeap_at (vs := vs) (out := (arrOf st).map (·.2)) made
  refine q _ _ c ys (fun b u e => ?_) at_ y1 y2 y3
  have lt := Heap.lt_size e
  exact (sortedHeap_old (Nat.ne_of_lt lt) (by rw [size_push']; exact Nat.lt_succ_of_lt lt)).trans (Heap.get?_push_of_some _ e)
/-- sorted(a) -/
theorem sorted_setS {Q : Value → Shared → Prop} (R : SetS w s.heap a L) (hh : A.handled = none) (few : L.length < 64)
    (q : ∀ s' p (out : Array Value) (c : Nat) (ys : List PySem.Str), (∀ b o, s.heap.get? b = some o → s'.heap.get? b = some o) → s'.gens = s.gens → s'.os = s.os → s.heap.objs.size ≤ p → s'.heap.get? p = some (seqObj "list" out c) → StrsAre out.toList ys → Up ys → ys.Perm L → Q (.ref p) s') :
    wpAny (model P w) A (call (.builtin "sorted") [.ref a]) Q E s := by
  obtain ⟨D, ho, T⟩ := R
  refine Calls.call_function_entry kind_sorted plain_sorted entry_sorted (args_sorted1 _) ?_
  show wpAny _ A.in1 (checkCount "sorted" 1 1 1 >>= fun _ => collect (.ref a) >>= fun vs => newList vs >>= fun l => holding [l] (call (.builtin "list.sort") [l] []) >>= fun _ => ret l) _ _ s
  refine wpAny_bind (wpAny_pure (wpAny_bind (collect_set hh ⟨_, ho, rfl, rfl⟩ (T.ok P).fit (T.small (P := P)) T.ris T.led fun s1 vs keep size gens os pm => ?_)))
  have texts : StrsAre vs (vs.map textOf) := strs_of fun v hv => by
    obtain ⟨e, he, rfl⟩ := List.mem_map.mp (pm.mem_iff.mp hv)
    obtain ⟨x, tk, q, _⟩ := T.text (P := P) he
    exact ⟨x, tk, q⟩
  have all : (vs.map textOf).Perm L := by
    have z := pm.map textOf
    rw [List.map_map] at z
    exact z.trans (T.perm (P := P))
  have len : vs.length < 64 := by
    rw [← List.length_map (f := textOf), all.length_eq]
    exact few
  exact lay_sorted texts len fun h' out c ys k2 at_ y1 y2 y3 =>
    wpAny_pure ⟨_, rfl, q { s1 with heap := h' } _ out c ys (fun b o e => k2 b o (keep b o e)) gens os size at_ y1 (up_of y3 ((y2.trans all).nodup_iff.mpr T.nd)) (y2.trans all)⟩
end
/-! ### the calls as rules -/
/-- the set of texts at a, tracked -/
def SetSO (w : World) (a : Addr) (L : List PySem.Str) : HO := .ext fun h => SetS w h a L
theorem setSO_new {w : World} {P : Program} {H : Hp} {h : Heap} {a : Addr} {L : List PySem.Str} (R : SetS w h a L) : ObjOk P w H h a (SetSO w a L) :=
  have ⟨_, ho, _⟩ := R
  ⟨R, ⟨_, ho⟩, fun _ _ r k => SetS.at r k⟩
section
variable {X : Cx}
theorem setSO_get {pins : List (Addr × Obj)} {σ : L2.St} {H : Hp} {s : Shared} {a : Addr} {L : List PySem.Str} (I : Inv X pins σ H s) (ha : H a = some (SetSO X.w a L)) : SetS X.w s.heap a L := (I.hok a _ ha).1
/-- set(l), l a list of texts -/
def rSetOfS (K : PySem.W.Frag) (w : World) : List V → Hp → VK → Prop := fun xs H Q => ∃ (l : Addr) (ss : List PySem.Str), xs = [V.ref l] ∧ SqL K H l (ss.map V.str) ∧ ss.length + 1 < scanBound ∧
  ∀ a, H a = none → Q (.ref a) (upd H a (SetSO w a (addsL ss)))
theorem cr_setOfS (hc : X.calm = true) : CallR X (.type "set") (rSetOfS X.K X.w) := by
  rintro pins s σ H xs us Q I rel ⟨l, ss, rfl, hl, few, q⟩
  rw [Vals.ref1 rel]
  obtain ⟨items, vals, raw, _⟩ := I.list hl
  exact call_setS ss (I.ok.hd hc) raw.isList (by simpa using vals.strs) few fun h' tk R keep => ⟨.ref s.heap.objs.size, _, I.laid (t' := tk) keep (Nat.le_refl _) (setSO_new R), rfl, q _ (I.hok.fresh (Nat.le_refl _))⟩
/-- sorted(a), a a set of fewer than 64 texts -/
def rSortedSS (w : World) : List V → Hp → VK → Prop := fun vs H Q => ∃ (a : Addr) (L : List PySem.Str), vs = [V.ref a] ∧ H a = some (SetSO w a L) ∧ L.length < 64 ∧
  ∀ (ys : List PySem.Str) (p : Addr), Up ys → ys.Perm L → H p = none → Q (.ref p) (upd H p (.lst (ys.map V.str)))
theorem cr_sortedSS (hc : X.calm = true) : CallR X (.builtin "sorted") (rSortedSS X.w) := by
  rintro pins s σ H vs us Q I rel ⟨a, L, rfl, ha, few, q⟩
  rw [Vals.ref1 rel]
  refine sorted_setS (setSO_get I ha) (I.ok.hd hc) few fun s' p out c ys keep gens os above at_ t up pm => ?_
  have fresh : H p = none := I.hok.fresh above
  have short : (ys.map V.str).length ≤ sizeLine := by
    rw [List.length_map, pm.length_eq, sizeLine_eq]
    exact Nat.le_of_lt (Nat.lt_trans few (by decide))
  have J : Inv X pins σ (upd H p (.lst (ys.map V.str))) s' := I.call' (ch := []) os (Un.laid keep above fresh) (I.hok.laid keep above ⟨short, out.toList, c, vals_of_strs t, at_⟩) (gens ▸ I.bare) fun _ z => nomatch z
  exact ⟨.ref p, _, J, rfl, q ys p up pm fresh⟩
end
end K9S
/-! {elt for target in iter if ..}, elt a text. -/
namespace K9S
open PySem PySem.Spec PyProof.Rows L2
/-! ### the reading -/
/-- y goes into the set at D; Nx of what it leaves -/
def inS (w : World) (D : Addr) (y : V) (Nx : Hp → Prop) (H : Hp) : Prop := ∃ (k : PySem.Str) (L : List PySem.Str), y = .str k ∧ H D = some (SetSO w D L) ∧ L.length + 1 < scanBound ∧ Nx (upd H D (SetSO w D (addL k L)))
/-- one turn: the target's store, the tests, the element, the add -/
def turnS (w : World) (D : Addr) (g : TG) (tt : TT) (te : TE) (σ : L2.St) (vs : List Nat) (Nx : Hp → Prop) (x : V) (H : Hp) : Prop :=
  g x (wipe σ vs) H fun σ2 H2 => wipe σ2 vs = wipe σ vs ∧ tt σ2 H2 fun b H3 => if b = true then te σ2 H3 fun y H4 => inS w D y Nx H4 else Nx H3
/-- all turns: W by the turn and a measure that sinks -/
def loopS (J : It) (w : World) (D : Addr) (g : TG) (tt : TT) (te : TE) (σ : L2.St) (vs : List Nat) (Qd : Hp → Prop) (H0 : Hp) : Prop :=
  ∃ W : Nat → Nat → Hp → Prop, (∃ m, W 0 m H0) ∧ ∀ i m H, W i m H → (J.stop i H ∧ Qd H) ∨ (J.go i H ∧ ∃ Nx : Hp → Prop, (∀ H', Nx H' → ∃ m', m' < m ∧ W (i + 1) m' H') ∧ ∀ x H', J.yld i H x H' → turnS w D g tt te σ vs Nx x H')
def tScS (w : World) (wi : TI) (g : TG) (tt : TT) (te : TE) (vs : List Nat) : TE := fun σ H Q => wi σ H fun J H1 => ∀ D, H1 D = none → loopS J w D g tt te σ vs (Q (.ref D)) (upd H1 D (SetSO w D []))
/-- over a tuple that the turns leave as it is: Pv by the turn -/
theorem sc_tupS {w : World} {K : PySem.W.Frag} {a D : Addr} {xs : List V} {g : TG} {tt : TT} {te : TE} {vs : List Nat} {σ : L2.St} {H0 : Hp} {Qd : Hp → Prop} (Pv : Nat → Hp → Prop) (h0 : Pv 0 H0) (hl : ∀ i H, i ≤ xs.length → Pv i H → SqT K H a xs)
    (hs : ∀ i x H, xs[i]? = some x → Pv i H → turnS w D g tt te σ vs (Pv (i + 1)) x H) (hd : ∀ H, Pv xs.length H → Qd H) : loopS (Itt K a) w D g tt te σ vs Qd H0 := by
  refine ⟨fun i m H => i + m = xs.length ∧ Pv i H, ⟨xs.length, Nat.zero_add _, h0⟩, fun i m H z => ?_⟩
  obtain ⟨sum, p⟩ := z
  have tup := hl i H (by omega) p
  match m, sum with
  | 0, sum =>
    have e : i = xs.length := sum
    exact .inl ⟨⟨xs, tup, by omega⟩, hd H (e ▸ p)⟩
  | m + 1, sum =>
    have hi : i < xs.length := by omega
    have at_ : xs[i]? = some xs[i] := List.getElem?_eq_getElem hi
    refine .inr ⟨⟨xs, xs[i], tup, at_⟩, Pv (i + 1), fun H' p' => ⟨m, by omega, by omega, p'⟩, ?_⟩
    rintro x _ ⟨rfl, told⟩
    exact hs i x _ (told xs tup) p
/-! ### the walk -/
section
variable {X : Cx}
/-- the add, told of the tracked heap -/
theorem add_okS {pins : List (Addr × Obj)} {σ : L2.St} {H : Hp} {s : Shared} {E : Value → Shared → Prop} {D : Addr} {y : V} {u : Value} {Nx : Hp → Prop} {Q : Value → Shared → Prop} (I : Inv X pins σ H s) (r : RelV y u) (h : inS X.w D y Nx H)
    (q : ∀ s' H', Inv X pins σ H' s' → Nx H' → Q .none s') : wpAny (model X.prog X.w) X.A (call (.builtin "set.add") [.ref D, u]) Q E s := by
  obtain ⟨k, L, rfl, hD, room, nx⟩ := h
  obtain ⟨tk, rfl⟩ := (show ∃ t, u = Value.str k t from r)
  refine addS (setSO_get I hD) room fun h' sb R => q _ _ (I.write (e := D) (t' := s.toks + 1) ?_ (.inl rfl) (fun b o ne e => (sb.2 b ne).trans e) (let ⟨_, e, _⟩ := R; ⟨_, e⟩) (setSO_new R)) nx
  rw [hD]
  trivial
/-- a turn is over: the iterator's objects were pinned, so they stand as they stood -/
theorem turn_over {B : Cx} {tg : Expr} {J : It} {fp : List Addr} {it : Addr} {tn : Nat → Heap → Prop} (T : Turn B.prog B.w B.K tg J fp it tn) {i : Nat} {h : Heap} (t : tn i h) {σ σ' : L2.St} {vs : List Nat} {H : Hp} {s : Shared} (I : Inv B ([] ++ pinsAt fp h) σ' H s) (e : wipe σ' vs = wipe σ vs) :
    Inv B [] (wipe σ vs) H s ∧ tn i s.heap ∧ ∀ b ∈ fp, H b = none := by
  have pin : ∀ {b o}, b ∈ fp → h.get? b = some o → s.heap.get? b = some o ∧ H b = none := fun hb z =>
    have p := I.pin _ (List.mem_append_right _ (List.mem_append_right _ (mem_pinsAt hb z)))
    ⟨p.1, p.2.1⟩
  refine ⟨Inv.weak (Inv.unpinned I) ?_ ?_, T.keep i h _ t fun b hb o z => (pin hb z).1, fun b hb => ?_⟩
  · rw [← e, wipe_length]
  · intro j v z
    rw [← e] at z
    exact (wipe_some z).1
  · have ⟨_, z, _⟩ := T.obj i h t b hb
    exact (pin hb z).2
/-- the loop in its block -/
theorem loop_okS {s1 : Shared} {H1 : Hp} {scope : Scope} {ce : Env} {fp : List Addr} {tg iter elt : Expr} {ifs : List Expr} {J : It} {it D : Addr} {tn : Nat → Heap → Prop} {g : TG} {tt : TT} {te : TE} {σ : L2.St} {vs : List Nat} {Qd : Hp → Prop} {pos : Pos} {R : Result → Shared → Prop}
    (hc : X.calm = true) (T : Turn X.prog X.w X.K tg J fp it tn) (pg : PG (X.blk s1 H1 scope ce fp) tg g) (pt : PTs (X.blk s1 H1 scope ce fp) ifs tt) (pe : PE (X.blk s1 H1 scope ce fp) elt te)
    {s : Shared} {H0 : Hp} (q : loopS J X.w D g tt te σ vs Qd H0) (I : Inv (X.blk s1 H1 scope ce fp) [] (wipe σ vs) H0 s) (t : tn 0 s.heap) (nf : ∀ b ∈ fp, H0 b = none)
    (fin : ∀ s' H', Inv (X.blk s1 H1 scope ce fp) [] (wipe σ vs) H' s' → Qd H' → R (.ok .next) s') :
    codeAny (model X.prog X.w) X.A (.compLoop (.SetComp elt [⟨tg, iter, ifs, 0⟩] scope pos) 0 (.ref it) (.ref D) ce) R s := by
  have free : ∀ {σ' : L2.St} {H' : Hp} {s' : Shared}, Inv (X.blk s1 H1 scope ce fp) [] σ' H' s' → (∀ b ∈ fp, H' b = none) → ∀ b ∈ fp, FpOk (X.blk s1 H1 scope ce fp) [] H' b := by
    intro σ' H' s' I' n b hb
    have ⟨x1, x2⟩ := I'.ok.exf b hb
    refine ⟨n b hb, x1, I'.ok.exfs b hb, .inl hb, fun x c z => x2 x c z, fun p hp => ?_⟩
    cases hp
  obtain ⟨W, ⟨m0, w0⟩, turn⟩ := q
  refine PpSet.compLoopS_any (fun n s' => ∃ i H', (Inv (X.blk s1 H1 scope ce fp) [] (wipe σ vs) H' s' ∧ tn i s'.heap ∧ ∀ b ∈ fp, H' b = none) ∧ W i n H') ?_ m0 ⟨0, H0, ⟨I, t, nf⟩, w0⟩
  rintro n s2 ⟨i, H2, ⟨I2, t2, n2⟩, w2⟩
  obtain ⟨stop, qd⟩ | ⟨go, Nx, sink, step⟩ := turn i n H2 w2
  · refine thnF (T.done (X.blk s1 H1 scope ce fp) rfl rfl rfl hc i [] s2 _ H2 _ I2 (free I2 n2) t2 stop) ?_
    rintro _ s3 ⟨rfl, I3⟩
    exact fin s3 H2 I3 qd
  · have next : ∀ {h : Heap} {σ' : L2.St} {H' : Hp} {s' : Shared}, tn (i + 1) h → wipe σ' vs = wipe σ vs → Inv (X.blk s1 H1 scope ce fp) ([] ++ pinsAt fp h) σ' H' s' → Nx H' →
        ∃ m, m < n ∧ ∃ i H', (Inv (X.blk s1 H1 scope ce fp) [] (wipe σ vs) H' s' ∧ tn i s'.heap ∧ ∀ b ∈ fp, H' b = none) ∧ W i m H' := by
      intro h σ' H' s' t' e I' nx
      have ⟨m, lt, w'⟩ := sink H' nx
      exact ⟨m, lt, i + 1, H', turn_over (B := X.blk s1 H1 scope ce fp) T t' I' e, w'⟩
    refine thnF (T.item (X.blk s1 H1 scope ce fp) rfl rfl rfl hc i [] s2 _ H2 _ I2 (free I2 n2) t2 go) ?_
    rintro _ s3 ⟨u, rfl, got⟩
    refine thnF got fun _ s4 ⟨x, H4, I4, r4, y4, t4, n4⟩ => thnF (pg.run _ s4 _ H4 x u _ (I4.pinned (free I4 n4) (T.obj _ _ t4)) r4 (step x H4 y4)) fun _ s5 ⟨σ5, H5, I5, e5, q5⟩ => thnF (pt.run _ s5 σ5 H5 _ I5 q5) fun b s6 ⟨H6, I6, q6⟩ => ?_
    cases b with
    | true => exact thnF (pe.run _ s6 σ5 H6 _ I6 q6) fun z s7 ⟨y, H7, I7, r7, q7⟩ => add_okS (X := X.blk s1 H1 scope ce fp) I7 r7 q7 fun s8 H8 I8 nx => next t4 e5 I8 nx
    | false => exact next t4 e5 I6 q6
/-- THE RULE -/
theorem pe_scS {elt tg iter : Expr} {ifs : List Expr} {scope : Scope} {own : List (PySem.Str × Nat)} {pos : Pos} {wi : TI} {g : TG} {tt : TT} {te : TE} (hc : X.calm = true) (hN : X.N.Nodup) (hi : PI X tg iter wi) (ok : BlkOk X.N X.env.scope scope own)
    (hg : ∀ s H C cl fp, PG (X.blk s H scope (compEnvC scope cl C X.env) fp) tg g) (ht : ∀ s H C cl fp, PTs (X.blk s H scope (compEnvC scope cl C X.env) fp) ifs tt) (he : ∀ s H C cl fp, PE (X.blk s H scope (compEnvC scope cl C X.env) fp) elt te)
    (hs : ∀ x, foldedSetIterable iter X.env x = pure x := by intro _; rfl) : PE X (.SetComp elt [⟨tg, iter, ifs, 0⟩] scope pos) (tScS X.w wi g tt te (own.map (·.2))) := by
  refine ⟨fun pins s σ H Q I h => ?_⟩
  have cells : ∀ y ∈ scope.names, y.2 = .free → ∃ c, X.env.cells.lookup y.1 = some c := fun y hy e => I.ok.has _ ((ok.free y hy e).imp id id)
  rw [PpSet.eval_SetComp]
  refine wpAny_comprehension_free (use := none) rfl hs (closure_ok cells) ok.kind (fun y hy e => by rw [ok.uniq y hy, e]) (thn (hi.run pins s σ H _ I h) fun _ _ came => thn came ?_)
  rintro _ s2 ⟨it, fp, tn, J, H2, rfl, I2, T, t2, f2, q⟩
  refine PpSet.newSet_ok (newEnv_comp ?_)
  -- the new set at D
  have none2 : H2 s2.heap.objs.size = none := I2.hok.fresh (Nat.le_refl _)
  have low : ∀ b ∈ fp, b < s2.heap.objs.size := fun b hb => have ⟨_, z, _⟩ := T.obj _ _ t2 b hb; Heap.lt_size z
  have keep3 : ∀ b o, s2.heap.get? b = some o → (s2.heap.push (newSetObj X.w)).get? b = some o := fun b o e => Heap.get?_push_of_some _ e
  have I3 := I2.laid (a := s2.heap.objs.size) (h' := s2.heap.push (newSetObj X.w)) (o := SetSO X.w s2.heap.objs.size []) (t' := s2.toks) keep3 (Nat.le_refl _) (setSO_new (setS_fresh (Heap.get?_push_size _ rfl)))
  have q3 := q s2.heap.objs.size none2
  have f3 : ∀ b ∈ fp, FpOk X pins (upd H2 s2.heap.objs.size (SetSO X.w s2.heap.objs.size [])) b ∧ b < (s2.heap.push (newSetObj X.w)).objs.size := fun b hb =>
    ⟨⟨by rw [upd_ne (Nat.ne_of_lt (low b hb))]; exact (f2 b hb).1, (f2 b hb).2⟩, by rw [Heap.size_push]; exact Nat.lt_succ_of_lt (low b hb)⟩
  have t3 : tn 0 (s2.heap.push (newSetObj X.w)) := T.keep _ _ _ t2 fun b _ o e => keep3 b o e
  have t4 : tn 0 (pushCells ((s2.heap.push (newSetObj X.w)).push { cls := .type "dict", data := .dict #[] }) scope.names) := T.keep _ _ _ t3 fun b _ o e => pushCells_keeps _ _ _ _ (Heap.get?_push_of_some _ e)
  have loop := loop_okS (R := compPost (model X.prog X.w) X.A X.xe none (EP X pins σ Q) (.ref s2.heap.objs.size) (s2.heap.push (newSetObj X.w)).objs.size) (iter := iter) (pos := pos) hc T (hg _ _ _ _ fp) (ht _ _ _ _ fp) (he _ _ _ _ fp) q3 (block_start I3 ok hN f3) t4 (fun b hb => (f3 b hb).1.1) fun s' H' I' qd => by
    -- behind the block
    have out : Inv X pins σ H' s' := I3.call' (ch := fp) I'.os I'.base I'.hok I'.bare fun b hb => have ⟨_, x1, _, x3, x4, x5⟩ := (f3 b hb).1; ⟨x3, x1, x4, x5⟩
    have ⟨m, ns, _⟩ := I'.loc
    have ⟨y0, y1, y2, y3, y4, y5⟩ := I3.fpOk (b := (s2.heap.push (newSetObj X.w)).objs.size) (Nat.le_refl _) I'.free
    exact ⟨m, ns, fun h' sb => ⟨.ref s2.heap.objs.size, H', out.turned (t' := s'.toks) (fun b o ne e => (sb.2 b ne).trans e) y0 y1 y3 y4 y5, rfl, qd⟩⟩
  exact PpSet.codeAny_compStart_set loop (T.self X.A 0 _ _ _ t4 loop)
end
end K9S
/-! Order of pairs; a tuple whose object is known, and its methods. -/
namespace K9S
open PySem PySem.Spec PyProof.Rows L2
/-! ### pairs -/
theorem lex_two (e r : Nat → Bool) (z : Bool) : Ob.lexAt e r z 0 2 = bif e 0 then (bif e 1 then z else r 1) else r 0 := by
  show (if e 0 = true then (if e 1 = true then z else r 1) else r 0) = _
  cases e 0 <;> cases e 1 <;> rfl
/-- two things to ask of a pair -/
def at2 {α : Type} (x y : α) : Nat → α
  | 0 => x
  | _ => y
section
variable {X : Cx} {pins : List (Addr × Obj)} {σ : L2.St} {H : Hp} {s : Shared} {a : Addr}
/-- a tracked pair and its object -/
theorem pair_raw {x y : V} (I : Inv X pins σ H s) (h : SqT X.K H a [x, y]) : ∃ u v, RelV x u ∧ RelV y v ∧ IsTup s.heap a [u, v].toArray := by
  obtain ⟨its, rel, tup, _⟩ := I.tuple h
  obtain ⟨u, v, rfl, ru, rv⟩ := rel.two
  exact ⟨u, v, ru, rv, tup⟩
end
/-- t > u, two pairs of ints -/
def rGt2 (K : PySem.W.Frag) : R2 := fun x y H Q => ∃ (a b : Addr) (p q r s : Int), x = .ref a ∧ y = .ref b ∧ SqT K H a [.int p, .int q] ∧ SqT K H b [.int r, .int s] ∧ Q (.bl (decide (r < p ∨ (p = r ∧ s < q)))) H
theorem op_gt2 {X : Cx} (hu : X.A.units < cLine) : OpR X (compareOp .Gt) (rGt2 X.K) := by
  rintro pins s σ H _ _ _ _ Q I rx ry ⟨a, b, p, q, r, t, rfl, rfl, ha, hb, w⟩
  cases rx
  cases ry
  obtain ⟨_, _, ⟨t1, rfl⟩, ⟨t2, rfl⟩, tup1⟩ := pair_raw I ha
  obtain ⟨_, _, ⟨t3, rfl⟩, ⟨t4, rfl⟩, tup2⟩ := pair_raw I hb
  have R := Ob.RcOp.tuples_gt (A := X.A) (s := s) (e := at2 (p == r) (q == t)) (r := at2 (decide (r < p)) (decide (t < q))) tup1 tup2 hu
    (fun | 0, _, _ => SeqAt.EqAt.int_int p t1 r t3 | 1, _, _ => SeqAt.EqAt.int_int q t2 t t4) (fun | 0, _, _, _ => Ob.RcOp.gt_int p r t1 t3 | 1, _, _, _ => Ob.RcOp.gt_int q t t2 t4)
  refine R X.prog X.w X.xe (EP X pins σ Q) ⟨.bl _, H, I, rfl, ?_⟩
  refine cast (congrArg (fun z => Q (.bl z) H) ?_) w
  refine Eq.trans ?_ (lex_two _ _ _).symm
  show _ = bif (p == r) then (bif (q == t) then false else decide (t < q)) else decide (r < p)
  rw [Bool.eq_iff_iff, decide_eq_true_iff]
  by_cases c1 : p = r
  · by_cases c2 : q = t
    · simp [c1, c2]
    · simp [c1, c2]
  · simp [c1]
/-- t < u, two pairs of an int and a truth value -/
def rLtIB (K : PySem.W.Frag) : R2 := fun x y H Q => ∃ (a b : Addr) (p r : Int) (c d : Bool), x = .ref a ∧ y = .ref b ∧ SqT K H a [.int p, .bl c] ∧ SqT K H b [.int r, .bl d] ∧ Q (.bl (decide (p < r ∨ (p = r ∧ c = false ∧ d = true)))) H
theorem op_ltIB {X : Cx} (hu : X.A.units < cLine) : OpR X (compareOp .Lt) (rLtIB X.K) := by
  rintro pins s σ H _ _ _ _ Q I rx ry ⟨a, b, p, r, c, d, rfl, rfl, ha, hb, w⟩
  cases rx
  cases ry
  obtain ⟨_, u, ⟨t1, rfl⟩, e1, tup1⟩ := pair_raw I ha
  obtain ⟨_, v, ⟨t3, rfl⟩, e2, tup2⟩ := pair_raw I hb
  obtain rfl : u = Value.bool c := e1
  obtain rfl : v = Value.bool d := e2
  have R := Ob.RcOp.tuples_lt (A := X.A) (s := s) (e := at2 (p == r) (c == d)) (r := at2 (decide (p < r)) (decide (b2i c < b2i d))) tup1 tup2 hu
    (fun | 0, _, _ => SeqAt.EqAt.int_int p t1 r t3 | 1, _, _ => SeqAt.EqAt.bool_bool c d) (fun | 0, _, _, _ => Ob.RcOp.lt_int p r t1 t3 | 1, _, _, _ => fun _ _ _ _ z => lt_bool z)
  refine R X.prog X.w X.xe (EP X pins σ Q) ⟨.bl _, H, I, rfl, ?_⟩
  refine cast (congrArg (fun z => Q (.bl z) H) ?_) w
  refine Eq.trans ?_ (lex_two _ _ _).symm
  show _ = bif (p == r) then (bif (c == d) then false else decide (b2i c < b2i d)) else decide (p < r)
  rw [Bool.eq_iff_iff, decide_eq_true_iff]
  by_cases c1 : p = r
  · cases c <;> cases d <;> simp [c1, b2i]
  · simp [c1]
/-! ### a tuple whose object is known -/
section
variable {X : Cx}
/-- tuple(l), a new tuple whose object is known (it has no dict) -/
theorem cr_tupleF : CallR X (.type "tuple") (fun xs H Q => ∃ p ys, xs = [.ref p] ∧ SqL X.K H p ys ∧ ∀ (l : Addr) (o : Obj), H l = none → o.dict = none → Q (.ref l) (upd H l (.frz o (.tup ys)))) := by
  rintro pins s σ H _ us Q I rel ⟨p, ys, rfl, list, q⟩
  rw [Vals.ref1 rel]
  obtain ⟨its, vals, raw, small⟩ := I.list list
  have len := vals.length
  refine call_tuple_list raw.isList (fun h1 keep => ?_) (by rw [List.size_toArray]; omega)
  have J := (I.kept (t' := s.toks) keep).laid (a := h1.objs.size) (h' := h1.push { cls := .type "tuple", data := .seq its.toArray }) (o := .frz { cls := .type "tuple", data := .seq its.toArray } (.tup ys)) (t' := s.toks)
    (fun _ _ => Heap.get?_push_of_some _) (Nat.le_refl _) ⟨Heap.get?_push_size _ rfl, small, its, vals, .new _ _⟩
  exact ⟨.ref h1.objs.size, _, J, rfl, q _ _ ((I.kept (t' := s.toks) keep).hok.fresh (Nat.le_refl _)) rfl⟩
/-- t.name(e) of such a tuple -/
def tBMF (r : V → List V → Hp → VK → Prop) (to te : TE) : TE := fun σ H Q => to σ H fun x H1 => (∃ a o ys, x = .ref a ∧ H1 a = some (.frz o (.tup ys)) ∧ o.dict = none) ∧ te σ H1 fun y H2 => r x [y] H2 Q
theorem pe_bmF {o e : Expr} {to te : TE} {name : PySem.Str} {apos cpos : Pos} {id : String} {r : V → List V → Hp → VK → Prop} (pa : PlainAttrs "tuple") (slot : Slot "tuple" name id) (hty : typeOf (.builtin id) = pure (.type "method_descriptor")) (hm : MtR X id r) (ho : PE X o to) (he : PE X e te)
    (m : M1 X o name apos e cpos := by exact ⟨rfl, rfl, rfl, rfl⟩) : PE X (.Call (.Attribute o name apos) [e] [] cpos) (tBMF r to te) := by
  refine ⟨fun pins s σ H Q I h => wpAny_Call_method_late m.base m.few m.line m.trees (thn (ho.run pins s σ H _ I h) ?_)⟩
  rintro _ s1 ⟨_, H1, I1, r1, ⟨a, ob, ys, rfl, at_, bare⟩, q1⟩
  cases r1
  obtain ⟨there, _, _, _, _, e2, hc, _⟩ := I1.hok a _ at_
  refine ⟨"tuple", id, pa, slot, hty, ⟨_, e2, hc⟩, fun b z => ⟨ob, ?_, bare⟩, Calls.callWith_builtin rfl (Calls.evalArgs_plain (Calls.spliced_cons (thn (he.run pins s1 σ H1 _ I1 q1) ?_)))⟩
  · cases z
    exact there
  · rintro _ s2 ⟨y, H2, I2, r2, q2⟩
    exact Calls.spliced_nil (hm pins s2 σ H2 (.ref a) [y] (.ref a) _ Q I2 rfl (.cons r2 .nil) q2)
end
end K9S
namespace K9W
open PySem PySem.Spec PyProof.Rows L2 K9 K9S
/-! ### the text -/
def topS (i : Nat) : Stmt := PySem.Challenge.pw_whomaywhat_k09_whole_order_of_requests.main.body.getD i (.Pass ⟨0, 0, 0, 0⟩)
/-- a def of the top, as a caller needs it -/
structure Fn1 (K : PySem.W.Frag) (mg : PySem.Str → Option Value) (x : PySem.Str) (st : Stmt) (ps : List PySem.Str) (f : Addr) (fd : FuncData) : Prop where
  F : Fun K x x st f fd
  b : Binds K fd ps []
  g : mg x = some (.ref f)
abbrev FnE (K : PySem.W.Frag) (mg : PySem.Str → Option Value) (x : PySem.Str) (i : Nat) (ps : List PySem.Str) : Prop := ∃ f fd, Fn1 K mg x (topS i) ps f fd
/-- what the top leaves -/
structure Tx (K : PySem.W.Frag) (mg : PySem.Str → Option Value) : Prop where
  letters : ∃ t, mg "LETTERS" = some (.str "abcdefghijklmnopqrstuvwxyz" t)
  word_number : FnE K mg "word_number" 2 ["word"]
  stock_place : FnE K mg "stock_place" 3 ["mentioned", "word"]
  value_in : FnE K mg "value_in" 5 ["pairs", "field", "default"]
  both_fields : FnE K mg "both_fields" 6 ["one", "other"]
  sign : FnE K mg "sign" 7 ["one", "other"]
  compare_words : FnE K mg "compare_words" 8 ["mentioned", "one", "other"]
  compare_parts : FnE K mg "compare_parts" 9 ["mentioned", "one", "other"]
  compare_sets : FnE K mg "compare_sets" 10 ["mentioned", "one", "other"]
  compare_numbers : FnE K mg "compare_numbers" 11 ["one", "other"]
  compare_cell : FnE K mg "compare_cell" 12 ["mentioned", "kind", "one", "other"]
  compare_requests : FnE K mg "compare_requests" 13 ["mentioned", "one", "other"]
  law_draws : FnE K mg "_law_draws" 15 ["_law_script", "_law_many"]
  law_take : FnE K mg "_law_take" 16 ["_law_draws_here", "_law_many"]
  law_cell : FnE K mg "_law_cell" 17 ["_law_script", "_law_draws_here"]
  law_word : FnE K mg "_law_word" 18 ["_law_number"]
  law_some_word : FnE K mg "_law_some_word" 19 ["_law_draws_here"]
  law_is_integer : FnE K mg "_law_is_integer" 20 ["_law_value"]
  law_worth : FnE K mg "_law_worth" 21 ["_law_draws_here", "_law_kind", "_law_cell_here"]
  law_section : FnE K mg "_law_section" 22 ["_law_draws_here", "_law_kind", "_law_most", "_law_cell_here"]
  law_varied : FnE K mg "_law_varied" 23 ["_law_draws_here", "_law_one", "_law_kind", "_law_cell_here"]
  law_other : FnE K mg "_law_other" 24 ["_law_draws_here", "_law_one", "_law_cell_here"]
  law_signs : FnE K mg "_law_signs" 25 ["_law_mentioned", "_law_asked"]
  law_ordered : FnE K mg "_law_ordered" 26 ["_law_asked", "_law_signs_here"]
  law_lesser : FnE K mg "_law_lesser" 27 ["_law_pair", "_law_kind"]
  law_lowered : FnE K mg "_law_lowered" 28 ["_law_one", "_law_kind", "_law_at"]
  law_falls : FnE K mg "_law_falls" 29 ["_law_mentioned", "_law_one"]
  bLen : mg "len" = none
  bInt : mg "int" = none
  bBool : mg "bool" = none
  bAbs : mg "abs" = none
  bMax : mg "max" = none
  bRange : mg "range" = none
  bSorted : mg "sorted" = none
  bSet : mg "set" = none
  bTuple : mg "tuple" = none
  bList : mg "list" = none
  bIsi : mg "isinstance" = none
theorem szl {n : Nat} (h : n ≤ 1000) : n ≤ sizeLine := Nat.le_of_lt (small1000 h)
theorem sz2 : 2 ≤ sizeLine := szl (by decide)
theorem sz3 : 3 ≤ sizeLine := szl (by decide)
theorem sz4 : 4 ≤ sizeLine := szl (by decide)
theorem sz0 : 0 ≤ sizeLine := Nat.zero_le _
theorem sz1 : 1 ≤ sizeLine := szl (by decide)
/-- a comprehension's turn without a test -/
theorem yes_turn {σ : L2.St} {H : Hp} {A B : Hp → Prop} (h : A H) : tYes σ H (fun b H3 => if b = true then A H3 else B H3) := by
  dsimp only [tYes]
  rw [if_pos rfl]
  exact h
/-! ### heaps -/
/-- tuples and locked things are as they were -/
structure Keep (H H' : Hp) : Prop where
  tup : ∀ b xs, H b = some (.tup xs) → H' b = some (.tup xs)
  frz : ∀ b o u, H b = some (.frz o u) → H' b = some (.frz o u)
theorem Keep.refl (H : Hp) : Keep H H := ⟨fun _ _ h => h, fun _ _ _ h => h⟩
theorem Keep.trans {H H1 H2 : Hp} (a : Keep H H1) (b : Keep H1 H2) : Keep H H2 := ⟨fun c xs h => b.tup c xs (a.tup c xs h), fun c o u h => b.frz c o u (a.frz c o u h)⟩
theorem keep_same {H H' : Hp} (s : Same H H') : Keep H H' := ⟨fun b xs h => s b _ h, fun b o u h => s b _ h⟩
theorem same_new {H : Hp} {p : Addr} {o : HO} (h : H p = none) : Same H (upd H p o) := fun b x e => by
  rw [upd_ne (ne_of_none e h)]
  exact e
theorem keep_new {H : Hp} {p : Addr} {o : HO} (h : H p = none) : Keep H (upd H p o) := keep_same (same_new h)
theorem keep_lst {H : Hp} {p : Addr} {xs : List V} {o : HO} (h : H p = some (.lst xs)) : Keep H (upd H p o) := ⟨fun b ys e => by
    rw [upd_ne (ne_of e h (by intro z; cases z))]
    exact e, fun b ob u e => by
    rw [upd_ne (ne_of e h (by intro z; cases z))]
    exact e⟩
/-- the draws' list -/
def Dr (H : Hp) (d : Addr) : Prop := ∃ ns : List Int, H d = some (.lst (ns.map V.int))
/-- all but the draws at d is as it was; those are some draws -/
structure Ext (d : Addr) (H H' : Hp) : Prop where
  same : ∀ b o, b ≠ d → H b = some o → H' b = some o
  dr : Dr H' d
theorem Ext.refl {d : Addr} {H : Hp} (h : Dr H d) : Ext d H H := ⟨fun _ _ _ h => h, h⟩
theorem Ext.trans {d : Addr} {H H1 H2 : Hp} (a : Ext d H H1) (b : Ext d H1 H2) : Ext d H H2 := ⟨fun c o n h => b.same c o n (a.same c o n h), b.dr⟩
theorem Dr.same {d : Addr} {H H' : Hp} (h : Dr H d) (s : Same H H') : Dr H' d := let ⟨ns, e⟩ := h; ⟨ns, s _ _ e⟩
theorem Ext.of_same {d : Addr} {H H' : Hp} (h : Dr H d) (s : Same H H') : Ext d H H' := ⟨fun b o _ e => s b o e, h.same s⟩
theorem Ext.keep {d : Addr} {H H' : Hp} (h : Dr H d) (e : Ext d H H') : Keep H H' := by
  obtain ⟨ns, hd⟩ := h
  exact ⟨fun b xs q => e.same b _ (ne_of q hd (by intro z; cases z)) q, fun b o u q => e.same b _ (ne_of q hd (by intro z; cases z)) q⟩
theorem Ext.draw {d : Addr} {H : Hp} {ns : List Int} (h : Dr H d) : Ext d H (upd H d (.lst (ns.map V.int))) := ⟨fun b o n e => by
  rw [upd_ne n]
  exact e, ⟨ns, upd_same⟩⟩
/-- behind a new object -/
theorem Ext.new {d p : Addr} {H H' : Hp} {o : HO} (e : Ext d H H') (h : H' p = none) : Ext d H (upd H' p o) := e.trans (.of_same e.dr (same_new h))
section
variable {K : PySem.W.Frag} {H H' : Hp}
theorem keep_t {a : Addr} {xs : List V} (k : Keep H H') (h : SqT K H a xs) : SqT K H' a xs := by
  rcases h with (h | ⟨o, h⟩) | h
  · exact .inl (.inl (k.tup _ _ h))
  · exact .inl (.inr ⟨o, k.frz _ _ _ h⟩)
  · exact .inr h
theorem t_of {a : Addr} {xs : List V} (h : H a = some (.tup xs)) : SqT K H a xs := .inl (.inl h)
theorem l_of {a : Addr} {xs : List V} (h : H a = some (.lst xs)) : SqL K H a xs := .inl (.inl h)
/-! ### what stands for what -/
/-- a tuple of texts -/
def VT (K : PySem.W.Frag) (H : Hp) (v : V) (ws : List PySem.Str) : Prop := ∃ a, v = .ref a ∧ SqT K H a (ws.map V.str)
/-- .. whose object is known and has no dict -/
def VM (H : Hp) (v : V) (ws : List PySem.Str) : Prop := ∃ a o, v = .ref a ∧ H a = some (.frz o (.tup (ws.map V.str))) ∧ o.dict = none
theorem VM.vt {v : V} {ws : List PySem.Str} (h : VM H v ws) : VT K H v ws := let ⟨a, o, e, t, _⟩ := h; ⟨a, e, .inl (.inr ⟨o, t⟩)⟩
theorem VM.keep {v : V} {ws : List PySem.Str} (k : Keep H H') (h : VM H v ws) : VM H' v ws := let ⟨a, o, e, t, d⟩ := h; ⟨a, o, e, k.frz _ _ _ t, d⟩
def VC (K : PySem.W.Frag) (H : Hp) (v : V) : Cv → Prop
  | .word w => v = .str w
  | .path ps => VT K H v ps
  | .set ws => VT K H v ws
  | .num n => v = .int n
def VP (K : PySem.W.Frag) (H : Hp) (v : V) (p : PySem.Str × Cv) : Prop := ∃ a x, v = .ref a ∧ SqT K H a [.str p.1, x] ∧ VC K H x p.2
def VS (K : PySem.W.Frag) (H : Hp) (v : V) (s : Sec) : Prop := ∃ a xs, v = .ref a ∧ SqT K H a xs ∧ Paired (VP K H) xs s
def VR (K : PySem.W.Frag) (H : Hp) (v : V) (r : Req) : Prop := ∃ a xs, v = .ref a ∧ SqT K H a xs ∧ Paired (VS K H) xs r
theorem VT.keep {v : V} {ws : List PySem.Str} (k : Keep H H') (h : VT K H v ws) : VT K H' v ws := let ⟨a, e, t⟩ := h; ⟨a, e, keep_t k t⟩
theorem VC.keep {v : V} {c : Cv} (k : Keep H H') (h : VC K H v c) : VC K H' v c := by
  cases c with
  | word w => exact h
  | path ps => exact VT.keep k h
  | set ws => exact VT.keep k h
  | num n => exact h
theorem VP.keep {v : V} {p : PySem.Str × Cv} (k : Keep H H') (h : VP K H v p) : VP K H' v p := let ⟨a, x, e, t, c⟩ := h; ⟨a, x, e, keep_t k t, c.keep k⟩
theorem VS.keep {v : V} {s : Sec} (k : Keep H H') (h : VS K H v s) : VS K H' v s := let ⟨a, x, e, t, c⟩ := h; ⟨a, x, e, keep_t k t, L2.Paired.mapP c fun _ _ q => q.keep k⟩
theorem VR.keep {v : V} {r : Req} (k : Keep H H') (h : VR K H v r) : VR K H' v r := let ⟨a, x, e, t, c⟩ := h; ⟨a, x, e, keep_t k t, L2.Paired.mapP c fun _ _ q => q.keep k⟩
theorem paired_get {α β : Type} {F : α → β → Prop} : ∀ {l : List α} {k : List β} {i : Nat} {b : β}, Paired F l k → k[i]? = some b → ∃ a, l[i]? = some a ∧ F a b
  | _, _, _, _, .nil, h => by simp at h
  | _, _, 0, b, .cons r _, h => by
    cases h
    exact ⟨_, rfl, r⟩
  | _, _, i + 1, b, .cons _ t, h => paired_get (i := i) t (by simpa using h)
theorem paired_getL {α β : Type} {F : α → β → Prop} : ∀ {l : List α} {k : List β} {i : Nat} {a : α}, Paired F l k → l[i]? = some a → ∃ b, k[i]? = some b ∧ F a b
  | _, _, _, _, .nil, h => by simp at h
  | _, _, 0, b, .cons r _, h => by
    cases h
    exact ⟨_, rfl, r⟩
  | _, _, i + 1, b, .cons _ t, h => paired_getL (i := i) t (by simpa using h)
/-- == of them is data's -/
def dC : Cv → PyData
  | .word w => .str w
  | .path ps => .tuple (ps.map .str)
  | .set ws => .tuple (ws.map .str)
  | .num n => .int n
def dP (p : PySem.Str × Cv) : PyData := .tuple [.str p.1, dC p.2]
def dS (s : Sec) : PyData := .tuple (s.map dP)
def dR (r : Req) : PyData := .tuple (r.map dS)
theorem dp_strs : ∀ ws : List PySem.Str, DpAll K H (ws.map V.str) (ws.map .str)
  | [] => .nil
  | w :: r => .cons (.str w) (dp_strs r)
theorem VC.dp {v : V} {c : Cv} (h : VC K H v c) : Dp K H v (dC c) := by
  cases c with
  | word w =>
    have e : v = .str w := h
    rw [e]
    exact .str w
  | path ps =>
    obtain ⟨a, rfl, t⟩ := (show VT K H v ps from h)
    exact .tup t (dp_strs ps)
  | set ws =>
    obtain ⟨a, rfl, t⟩ := (show VT K H v ws from h)
    exact .tup t (dp_strs ws)
  | num n =>
    have e : v = .int n := h
    rw [e]
    exact .int n
theorem dp_all {α : Type} {F : V → α → Prop} {g : α → PyData} (hf : ∀ v a, F v a → Dp K H v (g a)) : ∀ {l : List V} {k : List α}, Paired F l k → DpAll K H l (k.map g)
  | _, _, .nil => .nil
  | _, _, .cons r t => .cons (hf _ _ r) (dp_all hf t)
theorem VP.dp {v : V} {p : PySem.Str × Cv} (h : VP K H v p) : Dp K H v (dP p) := by
  obtain ⟨a, x, rfl, t, c⟩ := h
  exact .tup t (.cons (.str _) (.cons c.dp .nil))
theorem VS.dp {v : V} {s : Sec} (h : VS K H v s) : Dp K H v (dS s) := by
  obtain ⟨a, x, rfl, t, c⟩ := h
  exact .tup t (dp_all (fun _ _ q => VP.dp q) c)
theorem VR.dp {v : V} {r : Req} (h : VR K H v r) : Dp K H v (dR r) := by
  obtain ⟨a, x, rfl, t, c⟩ := h
  exact .tup t (dp_all (fun _ _ q => VS.dp q) c)
end
end K9W
namespace K9W
open PySem PySem.Spec PyProof.Rows L2 K9 K9S
section
variable {P : Program} {w : World} {K : PySem.W.Frag} {mg : PySem.Str → Option Value} {base : Heap}
/-! ### word_number -/
abbrev LET : PySem.Str := "abcdefghijklmnopqrstuvwxyz"
theorem occ_let {c : Nat} (h : 97 ≤ c ∧ c ≤ 122) : ∃ rest, Builtin.Str.occurrences LET ⟨#[c]⟩ 0 LET.length 1 = (c - 97) :: rest := by
  have h1 : ∀ k : _root_.Fin 26, (Builtin.Str.occurrences LET ⟨#[97 + k.val]⟩ 0 LET.length 1).head? = some k.val := by decide +kernel
  have h2 := h1 ⟨c - 97, by omega⟩
  have e : 97 + (c - 97) = c := by omega
  simp only [e] at h2
  cases q : Builtin.Str.occurrences LET ⟨#[c]⟩ 0 LET.length 1 with
  | nil => rw [q] at h2; cases h2
  | cons i r =>
    rw [q] at h2
    exact ⟨r, by rw [show i = c - 97 from Option.some.inj h2]⟩
theorem scWN : FnScope ["word", "number", "letter"] ["word"] (defScope (topS 2)) := ⟨rfl, rfl, rfl, by decide +kernel, rfl, by decide +kernel, by decide +kernel⟩
def spWordNum : Sp := fun vs H Q _ => ∃ x : PySem.Str, vs = [.str x] ∧ (∀ c ∈ x.cps.toList, 97 ≤ c ∧ c ≤ 122) ∧ Q (.int (wnum x)) H
theorem ok_word_number (T : Tx K mg) {f : Addr} {fd : FuncData} (h : Fn1 K mg "word_number" (topS 2) ["word"] f fd) : FnOk P w K mg base CX0 1 f fd ["word"] spWordNum := by
  obtain ⟨tl, hlet⟩ := T.letters
  refine h.F.ok scWN (fun vs H Q E q => ?_) (fun cdv A outer s H vs Q E hr q => ?_)
  · obtain ⟨x, rfl, _⟩ := q
    rfl
  · obtain ⟨x, rfl, hx, q⟩ := q
    refine ⟨_, pss_cons (ps_set (i := 1) scWN.nd rfl (.inl rfl) pe_int)
      (pss_cons (ps_for PassesOwn.never rfl (pi_str (pv 0)) (pg_name (i := 2) scWN.nd rfl (.inl rfl))
        (pss_one (ps_set (i := 1) scWN.nd rfl (.inl rfl) (pe_op op_add (pe_op op_add (pe_op op_mul (pv 1) pe_int)
          (pe_bm PySem.F.plainAttrs_str PySem.F.slot_str_index PySem.F.type_str_index mt_sindex (pe_glob (v := .str LET) rfl hlet ⟨_, rfl⟩) (pa_cons (pv 2) pa_nil))) pe_int))))
      (pss_one (ps_ret (pv 1)))), ?_⟩
    refine ⟨_, rfl, x, rfl, fun i m σ H' => ∃ y, σ = [some (.str x), some (.int ((x.cps.toList.take i).foldl dig 0)), y] ∧ i + m = x.cps.size ∧ H' = H,
      ⟨x.cps.size, none, rfl, by omega, rfl⟩, fun i m σ H' hW => ?_⟩
    obtain ⟨y, rfl, em, rfl⟩ := hW
    by_cases hi : i < x.cps.size
    · refine .inr ⟨hi, fun σ' H2 => ∃ y, σ' = [some (.str x), some (.int ((x.cps.toList.take (i + 1)).foldl dig 0)), y] ∧ H2 = H', fun σ' H2 hN => ?_, fun v H2 hy => ?_⟩
      · obtain ⟨z, e1, e2⟩ := hN
        exact ⟨m - 1, by omega, z, e1, by omega, e2⟩
      · obtain ⟨rfl, c, hc, rfl⟩ := hy
        have hcl : x.cps.toList[i]? = some c := by rw [Array.getElem?_toList]; exact hc
        obtain ⟨rest, ho⟩ := occ_let (hx c (List.mem_of_getElem? hcl))
        refine ⟨_, rfl, _, _, rfl, rfl, .inr ⟨by decide, by decide⟩, rfl, _, rfl, _, _, _, rest, rfl, rfl, ho, _, _, rfl, rfl, _, _, rfl, rfl, some (.str ⟨#[c]⟩), ?_, rfl⟩
        rw [List.take_add_one, hcl]
        show _ = [_, some (V.int ((List.take i x.cps.toList ++ [c]).foldl dig 0)), _]
        rw [List.foldl_append]
        have e : (((c - 97 : Nat) : Int)) = (c : Int) - 97 := by
          have := (hx c (List.mem_of_getElem? hcl)).1
          omega
        show [_, some (V.int (_ * 26 + ((c - 97 : Nat) : Int) + 1)), _] = [_, some (V.int (_ * 26 + ((c : Int) - 97) + 1)), _]
        rw [e]
    · refine .inl ⟨Nat.le_of_not_lt hi, _, rfl, ?_⟩
      have e : x.cps.toList.take i = x.cps.toList := List.take_of_length_le (by rw [Array.length_toList]; omega)
      rw [e]
      exact q
/-! ### stock_place -/
theorem scSP : FnScope ["mentioned", "word"] ["mentioned", "word"] (defScope (topS 3)) := ⟨rfl, rfl, rfl, by decide +kernel, rfl, by decide +kernel, by decide +kernel⟩
def plV (p : Pl) : List V := [.int p.1, .int p.2]
def spPlace : Sp := fun vs H Q _ => ∃ (mv : V) (m : List PySem.Str) (x : PySem.Str), vs = [mv, .str x] ∧ VM H mv m ∧ IsB x ∧ ∀ p, H p = none → Q (.ref p) (upd H p (.tup (plV (place m x))))
theorem inV_strs (x : PySem.Str) (m : List PySem.Str) : inV (.str x) (m.map V.str) = decide (x ∈ m) := by
  unfold inV
  rw [List.any_map]
  by_cases h : x ∈ m
  · rw [decide_eq_true h]
    exact List.any_eq_true.mpr ⟨x, h, by show (x == x) = true; exact beq_self_eq_true x⟩
  · rw [decide_eq_false h, List.any_eq_false]
    intro y hy q
    have e : (y == x) = true := q
    exact h (eq_of_beq e ▸ hy)
theorem ok_stock_place (T : Tx K mg) {f : Addr} {fd : FuncData} (h : Fn1 K mg "stock_place" (topS 3) ["mentioned", "word"] f fd) : FnOk P w K mg base CX0 2 f fd ["mentioned", "word"] spPlace := by
  obtain ⟨f1, fd1, h1⟩ := T.word_number
  have G1 : FnOk P w K mg base CX0 1 f1 fd1 ["word"] spWordNum := ok_word_number T h1
  refine h.F.ok scSP (fun vs H Q E q => ?_) (fun cdv A outer s H vs Q E hr q => ?_)
  · obtain ⟨mv, m, x, rfl, _⟩ := q
    rfl
  · obtain ⟨mv, m, x, rfl, ⟨a, ob, rfl, hm, hod⟩, hx, q⟩ := q
    refine ⟨_, pss_cons (ps_if (pt_cmpR op_eq (pv 1) pe_str (nomark _)) (pss_one (ps_ret (pe_tup (pa_cons pe_int (pa_cons pe_int pa_nil))))) pss_nil)
      (pss_cons (ps_if (pt_cmpR op_in_seq (pv 1) (pv 0) (by rfl))
          (pss_one (ps_ret (pe_tup (pa_cons pe_int (pa_cons (pe_bmF PySem.F.plainAttrs_tuple PySem.F.slot_tuple_index PySem.F.type_tuple_index mt_tup_index (pv 0) (pv 1)) pa_nil))))) pss_nil)
        (pss_one (ps_ret (pe_tup (pa_cons pe_int (pa_cons (pe_call G1 hr (by rfl) h1.g h1.F.kp h1.b .nil pass0 (pa_cons (pv 1) pa_nil)) pa_nil)))))), ?_⟩
    refine ⟨_, rfl, rfl, _, rfl, ite2 (fun e => ?_) (fun e => ?_)⟩
    · have e0 : x = PySem.Str.empty := V.str.inj (of_decide_eq_true e)
      refine ⟨sz2, fun p hp => ?_⟩
      have q' := q p hp
      rw [e0, place_blank] at q'
      exact q'
    · have e0 : x ≠ PySem.Str.empty := fun z => e (decide_eq_true (by rw [z]; rfl))
      have hmT : SqT K H a (m.map V.str) := .inl (.inr ⟨ob, hm⟩)
      refine ⟨_, rfl, _, rfl, a, _, rfl, .inr hmT, rfl, flat_strs m, _, rfl, ?_⟩
      rw [show (if (false : Bool) = true then !inV (.str x) (m.map V.str) else inV (.str x) (m.map V.str)) = decide (x ∈ m) from inV_strs x m]
      refine ite2 (fun e1 => ?_) (fun e1 => ?_)
      · have hm1 : x ∈ m := of_decide_eq_true e1
        refine ⟨_, rfl, ⟨a, ob, _, rfl, hm, hod⟩, _, rfl, a, m, x, m.idxOf x, rfl, rfl, hmT, idx_get hm1, fun j hj => idx_first hj, sz2, fun p hp => ?_⟩
        have q' := q p hp
        unfold place at q'
        rw [if_neg e0, if_pos hm1] at q'
        exact q'
      · have hm1 : x ∉ m := fun z => e1 (decide_eq_true z)
        have hw : IsW x := hx.resolve_left e0
        refine ⟨_, rfl, x, rfl, hw.2.2, sz2, fun p hp => ?_⟩
        have q' := q p hp
        unfold place at q'
        rw [if_neg e0, if_neg hm1] at q'
        exact q'
end
end K9W
namespace K9W
open PySem PySem.Spec PyProof.Rows L2 K9 K9S
/-! ### tuples: + and slices -/
section
variable {K : PySem.W.Frag} {H : Hp} {a b : Addr} {xs ys : List V} {Q : VK}
theorem cat_any (ha : SqT K H a xs) (hb : SqT K H b ys) (hl : xs.length + ys.length ≤ sizeLine) (q : ∀ c H1, Same H H1 → SqT K H1 c (xs ++ ys) → Q (.ref c) H1) : rCatA K (.ref a) (.ref b) H Q := by
  refine ⟨a, b, xs, ys, rfl, rfl, ha, hb, hl, fun e => ?_, fun _ e => ?_, fun _ _ p hp => ?_⟩
  · subst e
    exact q b H (Same.refl H) hb
  · subst e
    exact q a H (Same.refl H) (by rw [List.append_nil]; exact ha)
  · exact q p _ (same_new hp) (t_of upd_same)
theorem cut_any {lo hi : Option Int} (ha : SqT K H a xs) (q : ∀ c H1, Same H H1 → SqT K H1 c (cutV xs lo hi) → Q (.ref c) H1) : rSlA K (.ref a) lo hi H Q := by
  refine ⟨a, xs, rfl, ha, fun e => ?_, fun _ p hp => ?_⟩
  · have e2 : cutV xs lo hi = xs := by
      unfold cutV
      rw [e.1, e.2, List.drop_zero, Nat.sub_zero]
      exact List.take_length
    exact q a H (Same.refl H) (by rw [e2]; exact ha)
  · exact q p _ (same_new hp) (t_of upd_same)
end
section
variable {P : Program} {w : World} {K : PySem.W.Frag} {mg : PySem.Str → Option Value} {base : Heap}
/-! ### sign -/
theorem scSi : FnScope ["one", "other"] ["one", "other"] (defScope (topS 7)) := ⟨rfl, rfl, rfl, by decide +kernel, rfl, by decide +kernel, by decide +kernel⟩
theorem lexLt_pl (p q : Pl) : HT.lexLt [p.1, p.2] [q.1, q.2] = true ↔ PLt p q := by
  unfold PLt
  rw [HT.lexLt_cons, HT.lexLt_cons, HT.lexLt_nil_nil]
  by_cases h1 : p.1 = q.1
  · rw [if_pos h1]
    by_cases h2 : p.2 = q.2
    · rw [if_pos h2]
      simp only [Bool.false_eq_true, false_iff]
      omega
    · rw [if_neg h2, decide_eq_true_eq]
      omega
  · rw [if_neg h1, decide_eq_true_eq]
    omega
def spSignI (K : PySem.W.Frag) : Sp := fun vs H Q _ => ∃ (a b : Addr) (p q : Pl), vs = [.ref a, .ref b] ∧ SqT K H a (plV p) ∧ SqT K H b (plV q) ∧ ∀ r, Tri PLt p q r → Q (.int r) H
theorem ok_signI (T : Tx K mg) {f : Addr} {fd : FuncData} (h : Fn1 K mg "sign" (topS 7) ["one", "other"] f fd) : FnOk P w K mg base CX0 1 f fd ["one", "other"] (spSignI K) := by
  refine h.F.ok scSi (fun vs H Q E q => ?_) (fun cdv A outer s H vs Q E hr q => ?_)
  · obtain ⟨a, b, p, q, rfl, _⟩ := q
    rfl
  · obtain ⟨a, b, p, r, rfl, ha, hb, q⟩ := q
    refine ⟨_, pss_cons (ps_if (pt_cmpR (op_ltT hr.units0) (pv 0) (pv 1) (nomark _)) (pss_one (ps_ret (pe_un un_neg pe_int))) pss_nil)
      (pss_cons (ps_if (pt_cmpR (op_ltT hr.units0) (pv 1) (pv 0) (nomark _)) (pss_one (ps_ret pe_int)) pss_nil) (pss_one (ps_ret pe_int))), ?_⟩
    refine ⟨_, rfl, _, rfl, a, b, [p.1, p.2], [r.1, r.2], rfl, rfl, ha, hb, _, rfl, ite2 (fun e => ?_) (fun e => ?_)⟩
    · exact ⟨_, rfl, q (-1) (.inl ⟨rfl, (lexLt_pl p r).mp e⟩)⟩
    · refine ⟨_, rfl, _, rfl, b, a, [r.1, r.2], [p.1, p.2], rfl, rfl, hb, ha, _, rfl, ite2 (fun e2 => ?_) (fun e2 => ?_)⟩
      · exact q 1 (.inr (.inl ⟨rfl, (lexLt_pl r p).mp e2⟩))
      · refine q 0 (.inr (.inr ⟨rfl, ?_⟩))
        by_cases c : p = r
        · exact c
        · rcases plt_tri c with z | z
          · exact absurd ((lexLt_pl p r).mpr z) e
          · exact absurd ((lexLt_pl r p).mpr z) e2
/-- pairs of an int and a truth value -/
def BLt (p q : Int × Bool) : Prop := p.1 < q.1 ∨ (p.1 = q.1 ∧ p.2 = false ∧ q.2 = true)
def spSignB (K : PySem.W.Frag) : Sp := fun vs H Q _ => ∃ (a b : Addr) (p q : Int × Bool), vs = [.ref a, .ref b] ∧ SqT K H a [.int p.1, .bl p.2] ∧ SqT K H b [.int q.1, .bl q.2] ∧ ∀ r, Tri BLt p q r → Q (.int r) H
theorem ok_signB (T : Tx K mg) {f : Addr} {fd : FuncData} (h : Fn1 K mg "sign" (topS 7) ["one", "other"] f fd) : FnOk P w K mg base CX0 1 f fd ["one", "other"] (spSignB K) := by
  refine h.F.ok scSi (fun vs H Q E q => ?_) (fun cdv A outer s H vs Q E hr q => ?_)
  · obtain ⟨a, b, p, q, rfl, _⟩ := q
    rfl
  · obtain ⟨a, b, p, r, rfl, ha, hb, q⟩ := q
    refine ⟨_, pss_cons (ps_if (pt_cmpR (op_ltIB hr.units0) (pv 0) (pv 1) (nomark _)) (pss_one (ps_ret (pe_un un_neg pe_int))) pss_nil)
      (pss_cons (ps_if (pt_cmpR (op_ltIB hr.units0) (pv 1) (pv 0) (nomark _)) (pss_one (ps_ret pe_int)) pss_nil) (pss_one (ps_ret pe_int))), ?_⟩
    refine ⟨_, rfl, _, rfl, a, b, p.1, r.1, p.2, r.2, rfl, rfl, ha, hb, _, rfl, ite2 (fun e => ?_) (fun e => ?_)⟩
    · have e' := of_decide_eq_true e
      exact ⟨_, rfl, q (-1) (.inl ⟨rfl, e'⟩)⟩
    · refine ⟨_, rfl, _, rfl, b, a, r.1, p.1, r.2, p.2, rfl, rfl, hb, ha, _, rfl, ite2 (fun e2 => ?_) (fun e2 => ?_)⟩
      · have e' := of_decide_eq_true e2
        exact q 1 (.inr (.inl ⟨rfl, e'⟩))
      · refine q 0 (.inr (.inr ⟨rfl, ?_⟩))
        have n1 := fun z => e (decide_eq_true z)
        have n2 := fun z => e2 (decide_eq_true z)
        obtain ⟨p1, p2⟩ := p
        obtain ⟨r1, r2⟩ := r
        dsimp only at n1 n2
        have e1 : p1 = r1 := by
          rcases Int.lt_trichotomy p1 r1 with z | z | z
          · exact absurd (.inl z) n1
          · exact z
          · exact absurd (.inl z) n2
        subst e1
        cases p2 <;> cases r2 <;> simp_all
/-! ### compare_words -/
theorem scCW : FnScope ["mentioned", "one", "other"] ["mentioned", "one", "other"] (defScope (topS 8)) := ⟨rfl, rfl, rfl, by decide +kernel, rfl, by decide +kernel, by decide +kernel⟩
def spCmpW : Sp := fun vs H Q _ => ∃ (mv : V) (m : List PySem.Str) (x y : PySem.Str), vs = [mv, .str x, .str y] ∧ VM H mv m ∧ IsB x ∧ IsB y ∧ ∀ r H', Same H H' → Tri (WLt m) x y r → Q (.int r) H'
theorem tri_words {m : List PySem.Str} {x y : PySem.Str} {r : Int} (hx : IsB x) (hy : IsB y) (h : Tri PLt (place m x) (place m y) r) : Tri (WLt m) x y r := by
  rcases h with h | h | ⟨h1, h2⟩
  · exact .inl h
  · exact .inr (.inl h)
  · exact .inr (.inr ⟨h1, place_inj hx hy h2⟩)
theorem ok_compare_words (T : Tx K mg) {f : Addr} {fd : FuncData} (h : Fn1 K mg "compare_words" (topS 8) ["mentioned", "one", "other"] f fd) : FnOk P w K mg base CX0 3 f fd ["mentioned", "one", "other"] spCmpW := by
  obtain ⟨f1, fd1, h1⟩ := T.stock_place
  have G1 : FnOk P w K mg base CX0 2 f1 fd1 ["mentioned", "word"] spPlace := ok_stock_place T h1
  obtain ⟨f2, fd2, h2⟩ := T.sign
  have G2 : FnOk P w K mg base CX0 1 f2 fd2 ["one", "other"] (spSignI K) := ok_signI T h2
  refine h.F.ok scCW (fun vs H Q E q => ?_) (fun cdv A outer s H vs Q E hr q => ?_)
  · obtain ⟨mv, m, x, y, rfl, _⟩ := q
    rfl
  · obtain ⟨mv, m, x, y, rfl, hm, hx, hy, q⟩ := q
    refine ⟨_, pss_one (ps_ret (pe_call G2 (hr.mono (by decide)) (by rfl) h2.g h2.F.kp h2.b .nil pass0
      (pa_cons (pe_call G1 hr (by rfl) h1.g h1.F.kp h1.b .nil pass0 (pa_cons (pv 0) (pa_cons (pv 1) pa_nil)))
        (pa_cons (pe_call G1 hr (by rfl) h1.g h1.F.kp h1.b .nil pass0 (pa_cons (pv 0) (pa_cons (pv 2) pa_nil))) pa_nil)))), ?_⟩
    refine ⟨_, rfl, _, rfl, mv, m, x, rfl, hm, hx, fun p hp => ?_⟩
    refine ⟨_, rfl, _, rfl, mv, m, y, rfl, hm.keep (keep_new hp), hy, fun p2 hp2 => ?_⟩
    refine ⟨p, p2, place m x, place m y, rfl, keep_t (keep_new hp2) (t_of upd_same), t_of upd_same, fun r hr => ?_⟩
    exact q r _ ((same_new hp).trans (same_new hp2)) (tri_words hx hy hr)
/-! ### value_in -/
theorem scVI : FnScope ["pairs", "field", "default", "name", "value"] ["pairs", "field", "default"] (defScope (topS 5)) := ⟨rfl, rfl, rfl, by decide +kernel, rfl, by decide +kernel, by decide +kernel⟩
def spValueIn (K : PySem.W.Frag) : Sp := fun vs H Q _ => ∃ (pv dv : V) (x : PySem.Str) (s : Sec) (d : Cv), vs = [pv, .str x, dv] ∧ VS K H pv s ∧ VC K H dv d ∧ ∀ v, VC K H v (look x d s) → Q v H
theorem ok_value_in (T : Tx K mg) {f : Addr} {fd : FuncData} (h : Fn1 K mg "value_in" (topS 5) ["pairs", "field", "default"] f fd) : FnOk P w K mg base CX0 1 f fd ["pairs", "field", "default"] (spValueIn K) := by
  refine h.F.ok scVI (fun vs H Q E q => ?_) (fun cdv A outer s H vs Q E hr q => ?_)
  · obtain ⟨p, d, x, s, c, rfl, _⟩ := q
    rfl
  · obtain ⟨_, dv, x, s, d, rfl, ⟨a, xs, rfl, ht, hp⟩, hd, q⟩ := q
    refine ⟨_, pss_cons (ps_for PassesOwn.never rfl (pi_tup (pv 0)) (pg_tup rfl (pgs_cons (pg_name (i := 3) scVI.nd rfl (.inl rfl)) (pgs_cons (pg_name (i := 4) scVI.nd rfl (.inl rfl)) pgs_nil)))
        (pss_one (ps_if (pt_cmpR op_eq (pv 3) (pv 1) (nomark _)) (pss_one (ps_ret (pv 4))) pss_nil)))
      (pss_one (ps_ret (pv 2))), ?_⟩
    refine ⟨_, rfl, a, rfl, ⟨_, ht⟩, ?_⟩
    refine for_tup (xs := xs) (fun i σ H' => ∃ y3 y4, σ = [some (.ref a), some (.str x), some dv, y3, y4] ∧ H' = H ∧ look x d s = look x d (s.drop i)) ⟨none, none, rfl, rfl, rfl⟩ ?_ ?_ ?_
    · rintro i σ H' _ ⟨_, _, _, rfl, _⟩
      exact ht
    · rintro i v σ H' hv ⟨y3, y4, rfl, rfl, hl⟩
      obtain ⟨⟨g, c⟩, hs, b, z, rfl, hb, hc⟩ := paired_getL hp hv
      refine ⟨b, _, rfl, hb, rfl, _, _, rfl, _, _, rfl, rfl, ?_⟩
      refine ⟨_, rfl, _, rfl, rfl, _, rfl, ite2 (fun e => ?_) (fun e => ?_)⟩
      all_goals
        have hdr : s.drop i = (g, c) :: s.drop (i + 1) := by
          obtain ⟨hlt, he⟩ := List.getElem?_eq_some_iff.mp hs
          rw [List.drop_eq_getElem_cons hlt, he]
      · have eg : g = x := V.str.inj (of_decide_eq_true e)
        refine ⟨_, rfl, q z ?_⟩
        rw [hl, hdr]
        show VC K H' z (if g = x then c else _)
        rw [if_pos eg]
        exact hc
      · have eg : g ≠ x := fun z => e (decide_eq_true (by rw [z]))
        refine ⟨_, _, rfl, rfl, ?_⟩
        rw [hl, hdr]
        show (if g = x then c else _) = _
        rw [if_neg eg]
    · rintro σ H' ⟨y3, y4, rfl, rfl, hl⟩
      refine ⟨_, rfl, q dv ?_⟩
      rw [hl, List.drop_of_length_le (by rw [hp.length]; exact Nat.le_refl _)]
      exact hd
/-! ### both_fields -/
theorem scBF : FnScope ["one", "other", "pair"] ["one", "other"] (defScope (topS 6)) := ⟨rfl, rfl, rfl, by decide +kernel, rfl, by decide +kernel, by decide +kernel⟩
def spBoth (K : PySem.W.Frag) : Sp := fun vs H Q _ => ∃ (av bv : V) (s t : Sec), vs = [av, bv] ∧ VS K H av s ∧ VS K H bv t ∧ s.length ≤ 3 ∧ t.length ≤ 3 ∧
  ∀ (ys : List PySem.Str) (p : Addr) (H' : Hp), Same H H' → H p = none → H' p = some (.lst (ys.map V.str)) → ys.Pairwise SLt → (∀ x, x ∈ ys ↔ x ∈ s.map (·.1) ∨ x ∈ t.map (·.1)) → Q (.ref p) H'
theorem paired_app {α β : Type} {F : α → β → Prop} : ∀ {l l' : List α} {k k' : List β}, Paired F l k → Paired F l' k' → Paired F (l ++ l') (k ++ k')
  | _, _, _, _, .nil, h => h
  | _, _, _, _, .cons r t, h => .cons r (paired_app t h)
theorem ok_both_fields (T : Tx K mg) {f : Addr} {fd : FuncData} (h : Fn1 K mg "both_fields" (topS 6) ["one", "other"] f fd) : FnOk P w K mg base CX0 1 f fd ["one", "other"] (spBoth K) := by
  refine h.F.ok scBF (fun vs H Q E q => ?_) (fun cdv A outer s H vs Q E hr q => ?_)
  · obtain ⟨av, bv, s, t, rfl, _⟩ := q
    rfl
  · obtain ⟨_, _, s, t, rfl, ⟨a, xs, rfl, ha, pa⟩, ⟨b, ys, rfl, hb, pb⟩, hs, ht, q⟩ := q
    refine ⟨_, pss_one (ps_ret (pe_callB (cr_sortedSS rfl) (by rfl) T.bSorted (by decide +kernel)
      (pa_cons (pe_scS (own := [("pair", 2)]) rfl scBF.nd (pi_tup (pe_op op_catA (pv 0) (pv 1))) (blkOk_by (own := [("pair", 2)]) (N := ["one", "other", "pair"]) (sc := defScope (topS 6)) (by decide +kernel))
        (fun _ _ _ _ _ => pg_name (i := 2) scBF.nd rfl (Or.inl rfl)) (fun _ _ _ _ _ => pts_nil) (fun _ _ _ _ _ => pe_ix (r := rIxT K) ix_tup (pv 2) pe_int (fun _ _ => rfl))) pa_nil))), ?_⟩
    have lx : xs.length ≤ 3 := by rw [pa.length]; exact hs
    have ly : ys.length ≤ 3 := by rw [pb.length]; exact ht
    refine ⟨_, rfl, _, rfl, cat_any ha hb (szl (by omega)) fun c H1 s1 hc => ?_⟩
    refine ⟨c, rfl, ⟨_, hc⟩, fun D hD => ?_⟩
    have pab : Paired (VP K H) (xs ++ ys) (s ++ t) := paired_app pa pb
    have lxy : (xs ++ ys).length ≤ 6 := by rw [List.length_append]; omega
    refine sc_tupS (xs := xs ++ ys) (fun i H' => Same H1 H' ∧ H' D = some (SetSO w D (addsL (((s ++ t).map (·.1)).take i)))) ⟨same_new hD, upd_same⟩ ?_ ?_ ?_
    · rintro i H' _ ⟨s2, _⟩
      exact keep_t (keep_same s2) hc
    · rintro i v H' hv ⟨s2, hD'⟩
      obtain ⟨⟨g, cv⟩, hst, e, z, rfl, he, hz⟩ := paired_getL pab hv
      refine ⟨rfl, yes_turn ?_⟩
      refine ⟨_, rfl, e, _, 0, .str g, rfl, rfl, keep_t (keep_same (s1.trans s2)) he, atI_nat (j := 0) rfl, g, _, rfl, hD', ?_, ?_, ?_⟩
      · have h1 := length_addsL (((s ++ t).map (·.1)).take i)
        have h2 : (((s ++ t).map (·.1)).take i).length ≤ 6 := Nat.le_trans (List.length_take_le' _ _) (by rw [List.length_map, ← pab.length]; exact lxy)
        have h3 : scanBound = 4096 := rfl
        omega
      · intro b' o' hb'
        rw [upd_ne (ne_of_none hb' hD)]
        exact s2 _ _ hb'
      · rw [upd_same]
        have e1 : ((s ++ t).map (·.1))[i]? = some g := by rw [List.getElem?_map, hst]; rfl
        rw [List.take_add_one, e1]
        show _ = some (SetSO w D (addsL (_ ++ [g])))
        rw [addsL_step]
        rfl
    · rintro H' ⟨s2, hD'⟩
      have en : ((s ++ t).map (·.1)).take (xs ++ ys).length = (s ++ t).map (·.1) := List.take_of_length_le (by rw [List.length_map, pab.length]; exact Nat.le_refl _)
      rw [en] at hD'
      refine ⟨D, _, rfl, hD', ?_, fun ks p pw pm hp => ?_⟩
      · have h1 := length_addsL ((s ++ t).map (·.1))
        have h2 : ((s ++ t).map (·.1)).length ≤ 6 := by rw [List.length_map, ← pab.length]; exact lxy
        omega
      · have sA : Same H H' := s1.trans s2
        refine q ks p _ (sA.trans (same_new hp)) (sA.free hp) upd_same pw fun x => ?_
        rw [pm.mem_iff, mem_addsL, List.map_append, List.mem_append]
end
end K9W
namespace K9W
open PySem PySem.Spec PyProof.Rows L2 K9 K9S
section
variable {P : Program} {w : World} {K : PySem.W.Frag} {mg : PySem.Str → Option Value} {base : Heap}
/-! ### compare_parts -/
theorem scCP : FnScope ["mentioned", "one", "other", "index", "first", "second", "found"] ["mentioned", "one", "other"] (defScope (topS 9)) := ⟨rfl, rfl, rfl, by decide +kernel, rfl, by decide +kernel, by decide +kernel⟩
abbrev rLn (K : PySem.W.Frag) : List V → Hp → VK → Prop := fun xs H Q => ∃ p ys, xs = [.ref p] ∧ (SqL K H p ys ∨ SqT K H p ys) ∧ Q (.int ys.length) H
/-- one[index] if index < len(one) else '' -/
theorem part_at {σ : L2.St} {H : Hp} {Q : VK} {c : Nat} {a : Addr} {xs : List PySem.Str} {i : Nat} (hc : σ[c]? = some (some (.ref a))) (hi : σ[3]? = some (some (.int (0 + (i : Int))))) (ha : SqT K H a (xs.map V.str)) (q : Q (.str (xs.getD i PySem.Str.empty)) H) :
    tIf (tTest (tOp (rI0 fun i j => .bl (decide (i < j))) (tVar 3) (tCB (rLn K) (tCons (tVar c) tNil)))) (tOp (rIxT K) (tVar c) (tVar 3)) (tC (.str PySem.Str.empty)) σ H Q := by
  refine ⟨_, hi, _, hc, a, _, rfl, .inr ha, _, _, rfl, rfl, _, rfl, ite2 (fun e => ?_) (fun e => ?_)⟩
  · have e1 := of_decide_eq_true e
    rw [List.length_map] at e1
    have e2 : i < xs.length := by omega
    refine ⟨_, hc, _, hi, a, _, _, .str (xs.getD i PySem.Str.empty), rfl, rfl, ha, ?_, q⟩
    rw [Int.zero_add]
    refine atI_nat ?_
    rw [List.getElem?_map, List.getElem?_eq_getElem e2, List.getD_eq_getElem?_getD, List.getElem?_eq_getElem e2]
    rfl
  · have e1 : ¬ (0 + (i : Int) < ((xs.map V.str).length : Nat)) := fun z => e (decide_eq_true z)
    rw [List.length_map] at e1
    have e2 : xs.getD i PySem.Str.empty = PySem.Str.empty := by
      rw [List.getD_eq_getElem?_getD, List.getElem?_eq_none (by omega)]
      rfl
    rw [e2] at q
    exact q
theorem isB_getD {xs : List PySem.Str} (h : ∀ p ∈ xs, IsW p) (i : Nat) : IsB (xs.getD i PySem.Str.empty) := by
  rw [List.getD_eq_getElem?_getD]
  cases e : xs[i]? with
  | none => exact .inl rfl
  | some x => exact .inr (h x (List.mem_of_getElem? e))
def spParts (K : PySem.W.Frag) : Sp := fun vs H Q _ => ∃ (mv av bv : V) (m xs ys : List PySem.Str), vs = [mv, av, bv] ∧ VM H mv m ∧ VT K H av xs ∧ VT K H bv ys ∧ (xs.length ≤ 5 ∧ ys.length ≤ 5) ∧ (∀ p ∈ xs, IsW p) ∧ (∀ p ∈ ys, IsW p) ∧
  ∀ r H', Same H H' → Tri (PathLt m) xs ys r → Q (.int r) H'
theorem ok_compare_parts (T : Tx K mg) {f : Addr} {fd : FuncData} (h : Fn1 K mg "compare_parts" (topS 9) ["mentioned", "one", "other"] f fd) : FnOk P w K mg base CX0 4 f fd ["mentioned", "one", "other"] (spParts K) := by
  obtain ⟨f1, fd1, h1⟩ := T.compare_words
  have G1 : FnOk P w K mg base CX0 3 f1 fd1 ["mentioned", "one", "other"] spCmpW := ok_compare_words T h1
  refine h.F.ok scCP (fun vs H Q E q => ?_) (fun cdv A outer s H vs Q E hr q => ?_)
  · obtain ⟨mv, av, bv, m, xs, ys, rfl, _⟩ := q
    rfl
  · obtain ⟨mv, _, _, m, xs, ys, rfl, hm, ⟨a, rfl, ha⟩, ⟨b, rfl, hb⟩, ⟨lx, ly⟩, hx, hy, q⟩ := q
    refine ⟨_, pss_cons (ps_for PassesOwn.never rfl (pi_range1 (by rfl) T.bRange (pa_cons (pe_callB (call_max2 rfl) (by rfl) T.bMax (by decide +kernel)
          (pa_cons (pe_callB call_len_seq (by rfl) T.bLen (by decide +kernel) (pa_cons (pv 1) pa_nil)) (pa_cons (pe_callB call_len_seq (by rfl) T.bLen (by decide +kernel) (pa_cons (pv 2) pa_nil)) pa_nil))) pa_nil))
        (pg_name (i := 3) scCP.nd rfl (.inl rfl))
        (pss_cons (ps_set (i := 4) scCP.nd rfl (.inl rfl) (pe_ifExp (pt_cmpR op_lt (pv 3) (pe_callB call_len_seq (by rfl) T.bLen (by decide +kernel) (pa_cons (pv 1) pa_nil)) (nomark _)) (pe_ix ix_tup (pv 1) (pv 3) (fun _ _ => rfl)) pe_str))
        (pss_cons (ps_set (i := 5) scCP.nd rfl (.inl rfl) (pe_ifExp (pt_cmpR op_lt (pv 3) (pe_callB call_len_seq (by rfl) T.bLen (by decide +kernel) (pa_cons (pv 2) pa_nil)) (nomark _)) (pe_ix ix_tup (pv 2) (pv 3) (fun _ _ => rfl)) pe_str))
        (pss_cons (ps_set (i := 6) scCP.nd rfl (.inl rfl) (pe_call G1 hr (by rfl) h1.g h1.F.kp h1.b .nil pass0 (pa_cons (pv 0) (pa_cons (pv 4) (pa_cons (pv 5) pa_nil)))))
        (pss_one (ps_if (pt_cmpR op_ne (pv 6) pe_int (nomark _)) (pss_one (ps_ret (pv 6))) pss_nil))))))
      (pss_one (ps_ret pe_int)), ?_⟩
    refine ⟨_, rfl, a, _, rfl, .inr ha, _, rfl, b, _, rfl, .inr hb, _, _, rfl, _, rfl, ?_, ?_, ?_⟩
    · simp only [List.length_map]
      split <;> omega
    · simp only [List.length_map]
      split <;> omega
    have en : (if (((ys.map V.str).length : Nat) : Int) > (((xs.map V.str).length : Nat) : Int) then (((ys.map V.str).length : Nat) : Int) else (((xs.map V.str).length : Nat) : Int)).toNat = max xs.length ys.length := by
      simp only [List.length_map]
      split <;> omega
    refine for_range (fun i σ H' => ∃ y3 y4 y5 y6, σ = [some mv, some (.ref a), some (.ref b), y3, y4, y5, y6] ∧ Same H H' ∧ ∀ j : Nat, j < i → xs.getD j PySem.Str.empty = ys.getD j PySem.Str.empty)
      ⟨none, none, none, none, rfl, Same.refl H, fun j hj => absurd hj (Nat.not_lt_zero _)⟩ ?_ ?_
    · rintro i σ H' hi ⟨y3, y4, y5, y6, rfl, sm, hj⟩
      refine part_at (c := 1) (i := i) rfl rfl (keep_t (keep_same sm) ha) ?_
      refine part_at (c := 2) (i := i) rfl rfl (keep_t (keep_same sm) hb) ?_
      refine ⟨_, rfl, _, rfl, _, rfl, mv, m, xs.getD i PySem.Str.empty, ys.getD i PySem.Str.empty, rfl, hm.keep (keep_same sm), isB_getD hx i, isB_getD hy i, fun r H2 s2 ht => ?_⟩
      refine ⟨_, rfl, rfl, _, rfl, ?_⟩
      rcases ht with ⟨rfl, ht⟩ | ⟨rfl, ht⟩ | ⟨rfl, ht⟩
      · rw [if_pos (by decide)]
        exact ⟨_, rfl, q _ _ (sm.trans s2) (.inl ⟨rfl, i, ht, hj⟩)⟩
      · rw [if_pos (by decide)]
        exact ⟨_, rfl, q _ _ (sm.trans s2) (.inr (.inl ⟨rfl, i, ht, fun j z => (hj j z).symm⟩))⟩
      · rw [if_neg (by decide)]
        refine ⟨_, _, _, _, rfl, sm.trans s2, fun j z => ?_⟩
        rcases Nat.lt_or_ge j i with c | c
        · exact hj j c
        · have e : j = i := by omega
          rw [e]
          exact ht
    · rintro σ H' ⟨y3, y4, y5, y6, rfl, sm, hj⟩
      rw [en] at hj
      refine q _ _ sm (.inr (.inr ⟨rfl, path_ext hx hy fun j => ?_⟩))
      rcases Nat.lt_or_ge j (max xs.length ys.length) with c | c
      · exact hj j c
      · rw [List.getD_eq_getElem?_getD, List.getD_eq_getElem?_getD, List.getElem?_eq_none (by omega), List.getElem?_eq_none (by omega)]
/-! ### compare_numbers -/
theorem scCN : FnScope ["one", "other"] ["one", "other"] (defScope (topS 11)) := ⟨rfl, rfl, rfl, by decide +kernel, rfl, by decide +kernel, by decide +kernel⟩
def spNums : Sp := fun vs H Q _ => ∃ a b : Int, vs = [.int a, .int b] ∧ ∀ r H', Same H H' → Tri NumLt a b r → Q (.int r) H'
theorem tri_nums {a b r : Int} (h : Tri BLt (absI a, decide (a < 0)) (absI b, decide (b < 0)) r) : Tri NumLt a b r := by
  have key : ∀ {a b : Int}, BLt (absI a, decide (a < 0)) (absI b, decide (b < 0)) → NumLt a b := by
    intro a b h
    unfold BLt at h
    simp only [decide_eq_true_eq, decide_eq_false_iff_not] at h
    unfold absI at h
    unfold NumLt
    split at h <;> split at h <;> omega
  rcases h with ⟨h1, h2⟩ | ⟨h1, h2⟩ | ⟨h1, h2⟩
  · exact .inl ⟨h1, key h2⟩
  · exact .inr (.inl ⟨h1, key h2⟩)
  · refine .inr (.inr ⟨h1, ?_⟩)
    have e1 := (Prod.mk.inj h2).1
    have e2 := decide_eq_decide.mp (Prod.mk.inj h2).2
    unfold absI at e1
    split at e1 <;> split at e1 <;> omega
theorem ok_compare_numbers (T : Tx K mg) {f : Addr} {fd : FuncData} (h : Fn1 K mg "compare_numbers" (topS 11) ["one", "other"] f fd) : FnOk P w K mg base CX0 2 f fd ["one", "other"] spNums := by
  obtain ⟨f1, fd1, h1⟩ := T.sign
  have G1 : FnOk P w K mg base CX0 1 f1 fd1 ["one", "other"] (spSignB K) := ok_signB T h1
  refine h.F.ok scCN (fun vs H Q E q => ?_) (fun cdv A outer s H vs Q E hr q => ?_)
  · obtain ⟨a, b, rfl, _⟩ := q
    rfl
  · obtain ⟨a, b, rfl, q⟩ := q
    refine ⟨_, pss_one (ps_ret (pe_call G1 hr (by rfl) h1.g h1.F.kp h1.b .nil pass0
      (pa_cons (pe_tup (pa_cons (pe_callB call_abs (by rfl) T.bAbs (by decide +kernel) (pa_cons (pv 0) pa_nil)) (pa_cons (pe_cmpR op_lt (pv 0) pe_int (nomark _)) pa_nil)))
      (pa_cons (pe_tup (pa_cons (pe_callB call_abs (by rfl) T.bAbs (by decide +kernel) (pa_cons (pv 1) pa_nil)) (pa_cons (pe_cmpR op_lt (pv 1) pe_int (nomark _)) pa_nil))) pa_nil)))), ?_⟩
    refine ⟨_, rfl, a, rfl, _, rfl, a, 0, rfl, rfl, sz2, fun p hp => ?_⟩
    refine ⟨_, rfl, b, rfl, _, rfl, b, 0, rfl, rfl, sz2, fun p2 hp2 => ?_⟩
    refine ⟨p, p2, (absI a, decide (a < 0)), (absI b, decide (b < 0)), rfl, keep_t (keep_new hp2) (t_of upd_same), t_of upd_same, fun r hr => ?_⟩
    exact q r _ ((same_new hp).trans (same_new hp2)) (tri_nums hr)
end
end K9W
namespace K9W
open PySem PySem.Spec PyProof.Rows L2 K9 K9S
section
variable {P : Program} {w : World} {K : PySem.W.Frag} {mg : PySem.Str → Option Value} {base : Heap}
/-! ### compare_sets -/
theorem scCS : FnScope ["mentioned", "one", "other", "found", "last", "members", "others", "result", "word", "place"] ["mentioned", "one", "other"] (defScope (topS 10)) := ⟨rfl, rfl, rfl, by decide +kernel, rfl, by decide +kernel, by decide +kernel⟩
def spSets (K : PySem.W.Frag) : Sp := fun vs H Q _ => ∃ (mv av bv : V) (m xs ys : List PySem.Str), vs = [mv, av, bv] ∧ VM H mv m ∧ VT K H av xs ∧ VT K H bv ys ∧ (xs.Pairwise SLt ∧ ys.Pairwise SLt) ∧ (∀ p ∈ xs, IsW p) ∧ (∀ p ∈ ys, IsW p) ∧
  ∀ r H', Same H H' → Tri (SetLt m) xs ys r → Q (.int r) H'
/-- what the first i of the two rounds have looked at -/
def rnd (xs ys : List PySem.Str) : Nat → PySem.Str → Prop
  | 0 => fun _ => False
  | 1 => fun v => v ∈ xs ∧ v ∉ ys
  | _ => fun v => (v ∈ xs ∧ v ∉ ys) ∨ (v ∈ ys ∧ v ∉ xs)
theorem ok_compare_sets (T : Tx K mg) {f : Addr} {fd : FuncData} (h : Fn1 K mg "compare_sets" (topS 10) ["mentioned", "one", "other"] f fd) : FnOk P w K mg base CX0 3 f fd ["mentioned", "one", "other"] (spSets K) := by
  obtain ⟨f1, fd1, h1⟩ := T.stock_place
  have G1 : FnOk P w K mg base CX0 2 f1 fd1 ["mentioned", "word"] spPlace := ok_stock_place T h1
  refine h.F.ok scCS (fun vs H Q E q => ?_) (fun cdv A outer s H vs Q E hr q => ?_)
  · obtain ⟨mv, av, bv, m, xs, ys, rfl, _⟩ := q
    rfl
  · obtain ⟨mv, _, _, m, xs, ys, rfl, hm, ⟨a, rfl, ha⟩, ⟨b, rfl, hb⟩, ⟨ax, ay⟩, hx, hy, q⟩ := q
    refine ⟨_, pss_cons (ps_set (i := 3) scCS.nd rfl (.inl rfl) pe_int)
      (pss_cons (ps_set (i := 4) scCS.nd rfl (.inl rfl) (pe_tup (pa_cons pe_int (pa_cons pe_int pa_nil))))
      (pss_cons (ps_for PassesOwn.never rfl (pi_tup (pe_tup (pa_cons (pe_tup (pa_cons (pv 1) (pa_cons (pv 2) (pa_cons pe_int pa_nil))))
            (pa_cons (pe_tup (pa_cons (pv 2) (pa_cons (pv 1) (pa_cons (pe_un un_neg pe_int) pa_nil)))) pa_nil))))
          (pg_tup rfl (pgs_cons (pg_name (i := 5) scCS.nd rfl (.inl rfl)) (pgs_cons (pg_name (i := 6) scCS.nd rfl (.inl rfl)) (pgs_cons (pg_name (i := 7) scCS.nd rfl (.inl rfl)) pgs_nil))))
          (pss_one (ps_for PassesOwn.never rfl (pi_tup (pv 5)) (pg_name (i := 8) scCS.nd rfl (.inl rfl))
            (pss_cons (ps_set (i := 9) scCS.nd rfl (.inl rfl) (pe_call G1 hr (by rfl) h1.g h1.F.kp h1.b .nil pass0 (pa_cons (pv 0) (pa_cons (pv 8) pa_nil))))
            (pss_one (ps_if (pw_and (pt_cmpR op_notIn_seq (pv 8) (pv 6) (by rfl)) (pw_and1 (pt_cmpR (op_gt2 hr.units0) (pv 9) (pv 4) (nomark _)))).pt
              (pss_cons (ps_set (i := 4) scCS.nd rfl (.inl rfl) (pv 9)) (pss_one (ps_set (i := 3) scCS.nd rfl (.inl rfl) (pv 7)))) pss_nil))))))
      (pss_one (ps_ret (pv 3))))), ?_⟩
    -- last = (0, 0); the two rounds
    refine ⟨sz2, fun l0 hl0 => ?_⟩
    have s1 : Same H (upd H l0 (.tup [.int 0, .int 0])) := same_new hl0
    generalize hH1 : upd H l0 (.tup [.int 0, .int 0]) = H1 at s1
    have hL0 : H1 l0 = some (.tup [.int 0, .int 0]) := by rw [← hH1]; exact upd_same
    refine ⟨_, rfl, _, rfl, sz3, fun t1 n1 => ?_⟩
    refine ⟨_, rfl, _, rfl, 1, rfl, sz3, fun t2 n2 => ?_⟩
    refine ⟨sz2, fun t3 n3 => ?_⟩
    generalize hH4 : upd (upd (upd H1 t1 _) t2 _) t3 _ = H4
    have s4 : Same H1 H4 := by
      rw [← hH4]
      exact (same_new n1).trans ((same_new n2).trans (same_new n3))
    have e1 : H4 t1 = some (.tup [.ref a, .ref b, .int 1]) := by
      rw [← hH4]
      exact (same_new n3) _ _ ((same_new n2) _ _ upd_same)
    have e2 : H4 t2 = some (.tup [.ref b, .ref a, .int (-1)]) := by
      rw [← hH4]
      exact (same_new n3) _ _ upd_same
    have e3 : H4 t3 = some (.tup [.ref t1, .ref t2]) := by
      rw [← hH4]
      exact upd_same
    have sA : Same H H4 := s1.trans s4
    refine ⟨t3, rfl, ⟨_, t_of e3⟩, ?_⟩
    refine for_tup (xs := [.ref t1, .ref t2]) (fun i σ H' => ∃ (fo : Int) (la : Addr) (lp : Pl) (y5 y6 y7 y8 y9 : Option V), σ = [some mv, some (.ref a), some (.ref b), some (.int fo), some (.ref la), y5, y6, y7, y8, y9] ∧ Same H4 H' ∧ SqT K H' la (plV lp) ∧ SJ m xs ys (rnd xs ys i) fo lp)
      ⟨0, l0, (0, 0), none, none, none, none, none, rfl, Same.refl _, t_of (s4 _ _ hL0), .inl ⟨rfl, rfl, fun _ h => h⟩⟩ ?_ ?_ ?_
    · rintro i σ H' _ ⟨_, _, _, _, _, _, _, _, _, s5, _⟩
      exact t_of (s5 _ _ e3)
    · rintro i v σ H' hv ⟨fo, la, lp, y5, y6, y7, y8, y9, rfl, s5, hla, hj⟩
      -- the round's members, others, result
      obtain ⟨c, d, us, ws, r, hc3, hcv, hc, hd, hus, hws, hr1, hnx⟩ : ∃ (c d : Addr) (us ws : List PySem.Str) (r : Int), (∃ t, v = .ref t ∧ H4 t = some (.tup [.ref c, .ref d, .int r])) ∧ True ∧ SqT K H c (us.map V.str) ∧ SqT K H d (ws.map V.str) ∧ (∀ p ∈ us, IsW p) ∧ True ∧
          (∀ x, x ∈ us → x ∉ ws → (r = 1 ∧ x ∈ xs ∧ x ∉ ys) ∨ (r = -1 ∧ x ∈ ys ∧ x ∉ xs)) ∧ (∀ x, rnd xs ys (i + 1) x ↔ rnd xs ys i x ∨ (x ∈ us ∧ x ∉ ws)) := by
        match i, hv with
        | 0, hv =>
          have ev : v = .ref t1 := (Option.some.inj hv).symm
          exact ⟨a, b, xs, ys, 1, ⟨t1, ev, e1⟩, trivial, ha, hb, hx, trivial, fun x h1 h2 => .inl ⟨rfl, h1, h2⟩, fun x => by simp [rnd]⟩
        | 1, hv =>
          have ev : v = .ref t2 := (Option.some.inj hv).symm
          exact ⟨b, a, ys, xs, -1, ⟨t2, ev, e2⟩, trivial, hb, ha, hy, trivial, fun x h1 h2 => .inr ⟨rfl, h1, h2⟩, fun x => by simp [rnd]⟩
      obtain ⟨t, rfl, et⟩ := hc3
      refine ⟨t, _, rfl, t_of (s5 _ _ et), rfl, _, _, rfl, _, _, rfl, _, _, rfl, rfl, ?_⟩
      -- the inner loop
      refine ⟨_, rfl, c, rfl, ⟨_, keep_t (keep_same (sA.trans s5)) hc⟩, ?_⟩
      refine for_tup (xs := us.map V.str) (fun j σ H' => ∃ (fo : Int) (la : Addr) (lp : Pl) (y8 y9 : Option V), σ = [some mv, some (.ref a), some (.ref b), some (.int fo), some (.ref la), some (.ref c), some (.ref d), some (.int r), y8, y9] ∧ Same H4 H' ∧ SqT K H' la (plV lp) ∧
          SJ m xs ys (fun x => rnd xs ys i x ∨ (x ∈ us.take j ∧ x ∉ ws)) fo lp)
        ⟨fo, la, lp, _, _, rfl, s5, hla, hj.congr fun x => by simp⟩ ?_ ?_ ?_
      · rintro j σ H2 _ ⟨_, _, _, _, _, _, s6, _⟩
        exact keep_t (keep_same (sA.trans s6)) hc
      · rintro j v σ H2 hv ⟨fo, la, lp, y8, y9, rfl, s6, hla, hj⟩
        rw [List.getElem?_map] at hv
        obtain ⟨x, hx1, rfl⟩ := Option.map_eq_some_iff.mp hv
        have hxw : IsW x := hus x (List.mem_of_getElem? hx1)
        have tk : ∀ z, z ∈ us.take (j + 1) ↔ z ∈ us.take j ∨ z = x := fun z => by
          rw [List.take_add_one, hx1]
          simp
        refine ⟨_, rfl, _, rfl, mv, m, x, rfl, hm.keep (keep_same (sA.trans s6)), .inr hxw, fun p np => ?_⟩
        have s7 : Same H2 (upd H2 p (.tup (plV (place m x)))) := same_new np
        generalize hH3 : upd H2 p (.tup (plV (place m x))) = H3 at s7
        have hp : H3 p = some (.tup (plV (place m x))) := by rw [← hH3]; exact upd_same
        have hd3 : SqT K H3 d (ws.map V.str) := keep_t (keep_same ((sA.trans s6).trans s7)) hd
        refine ⟨_, rfl, _, rfl, d, _, rfl, .inr hd3, rfl, flat_strs ws, _, rfl, ?_⟩
        rw [show (if (true : Bool) = true then !inV (.str x) (ws.map V.str) else inV (.str x) (ws.map V.str)) = !decide (x ∈ ws) from congrArg not (inV_strs x ws)]
        refine ite2 (fun e => ?_) (fun e => ?_)
        · have hxn : x ∉ ws := by simpa using e
          refine ⟨_, rfl, _, rfl, p, la, (place m x).1, (place m x).2, lp.1, lp.2, rfl, rfl, t_of hp, keep_t (keep_same s7) hla, _, rfl, ite2 (fun e2 => ?_) (fun e2 => ?_)⟩
          · have e3 := of_decide_eq_true e2
            have up : PLt lp (place m x) := by
              unfold PLt
              omega
            refine ⟨_, rfl, _, rfl, r, p, place m x, _, _, rfl, s6.trans s7, t_of hp, ?_⟩
            refine (hj.up up (hr1 x (List.mem_of_getElem? hx1) hxn)).congr fun z => ?_
            rw [tk]
            constructor
            · rintro ((z1 | z1) | z1)
              · exact .inl z1
              · exact .inr ⟨.inl z1.1, z1.2⟩
              · exact .inr ⟨.inr z1, z1 ▸ hxn⟩
            · rintro (z1 | ⟨z1 | z1, z2⟩)
              · exact .inl (.inl z1)
              · exact .inl (.inr ⟨z1, z2⟩)
              · exact .inr z1
          · have e3 : ¬ (lp.1 < (place m x).1 ∨ ((place m x).1 = lp.1 ∧ lp.2 < (place m x).2)) := fun z => e2 (decide_eq_true z)
            have up : ¬ PLt lp (place m x) := by
              unfold PLt
              omega
            refine ⟨fo, la, lp, _, _, rfl, s6.trans s7, keep_t (keep_same s7) hla, ?_⟩
            refine (hj.stay up (isW_ne hxw)).congr fun z => ?_
            rw [tk]
            constructor
            · rintro ((z1 | z1) | z1)
              · exact .inl z1
              · exact .inr ⟨.inl z1.1, z1.2⟩
              · exact .inr ⟨.inr z1, z1 ▸ hxn⟩
            · rintro (z1 | ⟨z1 | z1, z2⟩)
              · exact .inl (.inl z1)
              · exact .inl (.inr ⟨z1, z2⟩)
              · exact .inr z1
        · have hxn : x ∈ ws := by simpa using e
          refine iteF ⟨fo, la, lp, _, _, rfl, s6.trans s7, keep_t (keep_same s7) hla, ?_⟩
          refine hj.congr fun z => ?_
          rw [tk]
          constructor
          · rintro (z1 | z1)
            · exact .inl z1
            · exact .inr ⟨.inl z1.1, z1.2⟩
          · rintro (z1 | ⟨z1 | z1, z2⟩)
            · exact .inl z1
            · exact .inr ⟨z1, z2⟩
            · exact absurd (z1 ▸ hxn) z2
      · rintro σ H2 ⟨fo, la, lp, y8, y9, rfl, s6, hla, hj⟩
        refine ⟨fo, la, lp, _, _, _, _, _, rfl, s6, hla, hj.congr fun z => ?_⟩
        rw [hnx, List.length_map, List.take_length]
    · rintro σ H' ⟨fo, la, lp, y5, y6, y7, y8, y9, rfl, s5, hla, hj⟩
      exact ⟨_, rfl, q fo _ (sA.trans s5) (SJ.tri ax ay hj)⟩
/-! ### compare_cell -/
theorem scCC : FnScope ["mentioned", "kind", "one", "other"] ["mentioned", "kind", "one", "other"] (defScope (topS 12)) := ⟨rfl, rfl, rfl, by decide +kernel, rfl, by decide +kernel, by decide +kernel⟩
def spCell (K : PySem.W.Frag) : Sp := fun vs H Q _ => ∃ (mv av bv : V) (m : List PySem.Str) (N k : Nat) (c d : Cv), vs = [mv, .int (k : Int), av, bv] ∧ VM H mv m ∧ VC K H av c ∧ VC K H bv d ∧ k < 4 ∧ OkC N k c ∧ OkC N k d ∧
  ∀ r H', Same H H' → Tri (CLt m) c d r → Q (.int r) H'
theorem Tri.map {α β : Type} {L : α → α → Prop} {L' : β → β → Prop} {x y : α} {r : Int} (g : α → β) (h : Tri L x y r) (hL : ∀ a b, L a b → L' (g a) (g b)) : Tri L' (g x) (g y) r := by
  rcases h with ⟨h1, h2⟩ | ⟨h1, h2⟩ | ⟨h1, h2⟩
  · exact .inl ⟨h1, hL _ _ h2⟩
  · exact .inr (.inl ⟨h1, hL _ _ h2⟩)
  · exact .inr (.inr ⟨h1, by rw [h2]⟩)
theorem ok_compare_cell (T : Tx K mg) {f : Addr} {fd : FuncData} (h : Fn1 K mg "compare_cell" (topS 12) ["mentioned", "kind", "one", "other"] f fd) : FnOk P w K mg base CX0 5 f fd ["mentioned", "kind", "one", "other"] (spCell K) := by
  obtain ⟨f0, fd0, h0⟩ := T.compare_words
  have G0 : FnOk P w K mg base CX0 3 f0 fd0 ["mentioned", "one", "other"] spCmpW := ok_compare_words T h0
  obtain ⟨f1, fd1, h1⟩ := T.compare_parts
  have G1 : FnOk P w K mg base CX0 4 f1 fd1 ["mentioned", "one", "other"] (spParts K) := ok_compare_parts T h1
  obtain ⟨f2, fd2, h2⟩ := T.compare_sets
  have G2 : FnOk P w K mg base CX0 3 f2 fd2 ["mentioned", "one", "other"] (spSets K) := ok_compare_sets T h2
  obtain ⟨f3, fd3, h3⟩ := T.compare_numbers
  have G3 : FnOk P w K mg base CX0 2 f3 fd3 ["one", "other"] spNums := ok_compare_numbers T h3
  refine h.F.ok scCC (fun vs H Q E q => ?_) (fun cdv A outer s H vs Q E hr q => ?_)
  · obtain ⟨mv, av, bv, m, N, k, c, d, rfl, _⟩ := q
    rfl
  · obtain ⟨mv, av, bv, m, N, k, c, d, rfl, hm, ha, hb, hk, oc, od, q⟩ := q
    refine ⟨_, pss_cons (ps_if (pt_cmpR op_eq (pv 1) pe_int (nomark _)) (pss_one (ps_ret (pe_call G0 (hr.mono (by decide)) (by rfl) h0.g h0.F.kp h0.b .nil pass0 (pa_cons (pv 0) (pa_cons (pv 2) (pa_cons (pv 3) pa_nil)))))) pss_nil)
      (pss_cons (ps_if (pt_cmpR op_eq (pv 1) pe_int (nomark _)) (pss_one (ps_ret (pe_call G1 hr (by rfl) h1.g h1.F.kp h1.b .nil pass0 (pa_cons (pv 0) (pa_cons (pv 2) (pa_cons (pv 3) pa_nil)))))) pss_nil)
      (pss_cons (ps_if (pt_cmpR op_eq (pv 1) pe_int (nomark _)) (pss_one (ps_ret (pe_call G2 (hr.mono (by decide)) (by rfl) h2.g h2.F.kp h2.b .nil pass0 (pa_cons (pv 0) (pa_cons (pv 2) (pa_cons (pv 3) pa_nil)))))) pss_nil)
      (pss_one (ps_ret (pe_call G3 (hr.mono (by decide)) (by rfl) h3.g h3.F.kp h3.b .nil pass0 (pa_cons (pv 2) (pa_cons (pv 3) pa_nil))))))), ?_⟩
    rcases okC_form hk oc with ⟨rfl, x, rfl, hx⟩ | ⟨rfl, x, rfl, lx, hx⟩ | ⟨rfl, x, rfl, lx, ax, hx⟩ | ⟨rfl, x, rfl⟩
    · obtain ⟨y, rfl, hy⟩ : ∃ y, d = .word y ∧ IsB y := by
        rcases okC_form hk od with ⟨_, y, e, hy⟩ | ⟨e, _⟩ | ⟨e, _⟩ | ⟨e, _⟩
        · exact ⟨y, e, hy⟩
        all_goals cases e
      cases (show av = .str x from ha)
      cases (show bv = .str y from hb)
      refine ⟨_, rfl, rfl, _, rfl, iteT ?_⟩
      exact ⟨_, rfl, _, rfl, _, rfl, mv, m, x, y, rfl, hm, hx, hy, fun r H' s hr => q r H' s (Tri.map Cv.word hr fun _ _ z => z)⟩
    · obtain ⟨y, rfl, ly, hy⟩ : ∃ y, d = .path y ∧ y.length ≤ 5 ∧ ∀ p ∈ y, IsW p := by
        rcases okC_form hk od with ⟨e, _⟩ | ⟨_, y, e, hy⟩ | ⟨e, _⟩ | ⟨e, _⟩
        · cases e
        · exact ⟨y, e, hy⟩
        all_goals cases e
      refine ⟨_, rfl, rfl, _, rfl, iteF ?_⟩
      refine ⟨_, rfl, rfl, _, rfl, iteT ?_⟩
      exact ⟨_, rfl, _, rfl, _, rfl, mv, _, _, m, x, y, rfl, hm, ha, hb, ⟨lx, ly⟩, hx, hy, fun r H' s hr => q r H' s (Tri.map Cv.path hr fun _ _ z => z)⟩
    · obtain ⟨y, rfl, ly, ay, hy⟩ : ∃ y, d = .set y ∧ y.length ≤ N ∧ y.Pairwise SLt ∧ ∀ p ∈ y, IsW p := by
        rcases okC_form hk od with ⟨e, _⟩ | ⟨e, _⟩ | ⟨_, y, e, hy⟩ | ⟨e, _⟩
        · cases e
        · cases e
        · exact ⟨y, e, hy⟩
        all_goals cases e
      refine ⟨_, rfl, rfl, _, rfl, iteF ?_⟩
      refine ⟨_, rfl, rfl, _, rfl, iteF ?_⟩
      refine ⟨_, rfl, rfl, _, rfl, iteT ?_⟩
      exact ⟨_, rfl, _, rfl, _, rfl, mv, _, _, m, x, y, rfl, hm, ha, hb, ⟨ax, ay⟩, hx, hy, fun r H' s hr => q r H' s (Tri.map Cv.set hr fun _ _ z => z)⟩
    · obtain ⟨y, rfl⟩ : ∃ y, d = .num y := by
        rcases okC_form hk od with ⟨e, _⟩ | ⟨e, _⟩ | ⟨e, _⟩ | ⟨_, y, e⟩
        · cases e
        · cases e
        · cases e
        · exact ⟨y, e⟩
      cases (show av = .int x from ha)
      cases (show bv = .int y from hb)
      refine ⟨_, rfl, rfl, _, rfl, iteF ?_⟩
      refine ⟨_, rfl, rfl, _, rfl, iteF ?_⟩
      refine ⟨_, rfl, rfl, _, rfl, iteF ?_⟩
      exact ⟨_, rfl, _, rfl, x, y, rfl, fun r H' s hr => q r H' s (Tri.map Cv.num hr fun _ _ z => z)⟩
end
end K9W
namespace K9W
open PySem PySem.Spec PyProof.Rows L2 K9 K9S
section
variable {P : Program} {w : World} {K : PySem.W.Frag} {mg : PySem.Str → Option Value} {base : Heap}
/-! ### compare_requests -/
theorem scCR : FnScope ["mentioned", "one", "other", "defaults", "kind", "field", "first", "second", "found"] ["mentioned", "one", "other"] (defScope (topS 13)) := ⟨rfl, rfl, rfl, by decide +kernel, rfl, by decide +kernel, by decide +kernel⟩
def spReqs (K : PySem.W.Frag) : Sp := fun vs H Q _ => ∃ (mv av bv : V) (m : List PySem.Str) (N : Nat) (x y : Req), vs = [mv, av, bv] ∧ VM H mv m ∧ VR K H av x ∧ VR K H bv y ∧ OkReq N x ∧ OkReq N y ∧
  ∀ r H', Same H H' → Tri (RLt m) x y r → Q (.int r) H'
theorem val_sec {x : Req} {k : Nat} {s : Sec} (e : x[k]? = some s) (f : PySem.Str) : val x k f = look f (dft k) s := by
  unfold val
  rw [List.getD_eq_getElem?_getD, e]
  rfl
theorem ok_compare_requests (T : Tx K mg) {f : Addr} {fd : FuncData} (h : Fn1 K mg "compare_requests" (topS 13) ["mentioned", "one", "other"] f fd) : FnOk P w K mg base CX0 6 f fd ["mentioned", "one", "other"] (spReqs K) := by
  obtain ⟨f1, fd1, h1⟩ := T.both_fields
  have G1 : FnOk P w K mg base CX0 1 f1 fd1 ["one", "other"] (spBoth K) := ok_both_fields T h1
  obtain ⟨f2, fd2, h2⟩ := T.value_in
  have G2 : FnOk P w K mg base CX0 1 f2 fd2 ["pairs", "field", "default"] (spValueIn K) := ok_value_in T h2
  obtain ⟨f3, fd3, h3⟩ := T.compare_cell
  have G3 : FnOk P w K mg base CX0 5 f3 fd3 ["mentioned", "kind", "one", "other"] (spCell K) := ok_compare_cell T h3
  refine h.F.ok scCR (fun vs H Q E q => ?_) (fun cdv A outer s H vs Q E hr q => ?_)
  · obtain ⟨mv, av, bv, m, N, x, y, rfl, _⟩ := q
    rfl
  · obtain ⟨mv, _, _, m, N, x, y, rfl, hm, ⟨a, xs, rfl, ha, pa⟩, ⟨b, ys, rfl, hb, pb⟩, ox, oy, q⟩ := q
    refine ⟨_, pss_cons (ps_set (i := 3) scCR.nd rfl (.inl rfl) (pe_tup (pa_cons pe_str (pa_cons (pe_tup pa_nil) (pa_cons (pe_tup pa_nil) (pa_cons pe_int pa_nil))))))
      (pss_cons (ps_for PassesOwn.never rfl (pi_range1 (by rfl) T.bRange (pa_cons pe_int pa_nil)) (pg_name (i := 4) scCR.nd rfl (.inl rfl))
        (pss_one (ps_for PassesOwn.never rfl (pi_list (pe_call G1 (hr.mono (by decide)) (by rfl) h1.g h1.F.kp h1.b .nil pass0
              (pa_cons (pe_ix ix_tup (pv 1) (pv 4) (fun _ _ => rfl)) (pa_cons (pe_ix ix_tup (pv 2) (pv 4) (fun _ _ => rfl)) pa_nil)))) (pg_name (i := 5) scCR.nd rfl (.inl rfl))
          (pss_cons (ps_set (i := 6) scCR.nd rfl (.inl rfl) (pe_call G2 (hr.mono (by decide)) (by rfl) h2.g h2.F.kp h2.b .nil pass0
              (pa_cons (pe_ix ix_tup (pv 1) (pv 4) (fun _ _ => rfl)) (pa_cons (pv 5) (pa_cons (pe_ix ix_tup (pv 3) (pv 4) (fun _ _ => rfl)) pa_nil)))))
          (pss_cons (ps_set (i := 7) scCR.nd rfl (.inl rfl) (pe_call G2 (hr.mono (by decide)) (by rfl) h2.g h2.F.kp h2.b .nil pass0
              (pa_cons (pe_ix ix_tup (pv 2) (pv 4) (fun _ _ => rfl)) (pa_cons (pv 5) (pa_cons (pe_ix ix_tup (pv 3) (pv 4) (fun _ _ => rfl)) pa_nil)))))
          (pss_cons (ps_set (i := 8) scCR.nd rfl (.inl rfl) (pe_call G3 hr (by rfl) h3.g h3.F.kp h3.b .nil pass0
              (pa_cons (pv 0) (pa_cons (pv 4) (pa_cons (pv 6) (pa_cons (pv 7) pa_nil))))))
          (pss_one (ps_if (pt_cmpR op_ne (pv 8) pe_int (nomark _)) (pss_one (ps_ret (pv 8))) pss_nil))))))))
      (pss_one (ps_ret pe_int))), ?_⟩
    -- defaults
    refine ⟨sz0, fun d1 n1 => ⟨sz0, fun d2 n2 => ⟨sz4, fun d3 n3 => ?_⟩⟩⟩
    generalize hH1 : upd (upd (upd H d1 _) d2 _) d3 _ = H1
    have s1 : Same H H1 := by
      rw [← hH1]
      exact (same_new n1).trans ((same_new n2).trans (same_new n3))
    have hD : H1 d3 = some (.tup [.str PySem.Str.empty, .ref d1, .ref d2, .int 0]) := by
      rw [← hH1]
      exact upd_same
    have hd1 : H1 d1 = some (.tup []) := by
      rw [← hH1]
      exact (same_new n3) _ _ ((same_new n2) _ _ upd_same)
    have hd2 : H1 d2 = some (.tup []) := by
      rw [← hH1]
      exact (same_new n3) _ _ upd_same
    have hdf : ∀ k, k < 4 → ∃ v, [V.str PySem.Str.empty, .ref d1, .ref d2, .int 0][k]? = some v ∧ VC K H1 v (dft k) := fun k hk => by
      match k, hk with
      | 0, _ => exact ⟨_, rfl, rfl⟩
      | 1, _ => exact ⟨_, rfl, d1, rfl, t_of hd1⟩
      | 2, _ => exact ⟨_, rfl, d2, rfl, t_of hd2⟩
      | 3, _ => exact ⟨_, rfl, rfl⟩
    refine ⟨4, rfl, by decide, by decide, ?_⟩
    refine for_range (fun i σ H' => ∃ y4 y5 y6 y7 y8, σ = [some mv, some (.ref a), some (.ref b), some (.ref d3), y4, y5, y6, y7, y8] ∧ Same H1 H' ∧ ∀ k, k < i → ∀ g, val x k g = val y k g)
      ⟨none, none, none, none, none, rfl, Same.refl _, fun k hk => absurd hk (Nat.not_lt_zero _)⟩ ?_ ?_
    · rintro k σ H2 hk ⟨y4, y5, y6, y7, y8, rfl, s2, low⟩
      rw [Int.zero_add]
      have hk4 : k < 4 := hk
      obtain ⟨sx, hsx⟩ : ∃ sx, x[k]? = some sx := ⟨x[k]'(by rw [ox.1]; exact hk4), List.getElem?_eq_getElem _⟩
      obtain ⟨sy, hsy⟩ : ∃ sy, y[k]? = some sy := ⟨y[k]'(by rw [oy.1]; exact hk4), List.getElem?_eq_getElem _⟩
      have okx := ox.2 k _ hsx
      have oky := oy.2 k _ hsy
      obtain ⟨vx, hvx, rx⟩ := paired_get pa hsx
      obtain ⟨vy, hvy, ry⟩ := paired_get pb hsy
      have sA : Same H H2 := s1.trans s2
      have kA := keep_same sA
      refine ⟨_, rfl, _, rfl, a, _, _, vx, rfl, rfl, keep_t kA ha, atI_nat hvx, ?_⟩
      refine ⟨_, rfl, _, rfl, b, _, _, vy, rfl, rfl, keep_t kA hb, atI_nat hvy, ?_⟩
      refine ⟨vx, vy, sx, sy, rfl, rx.keep kA, ry.keep kA, okx.len, oky.len, fun fs p H3 s3 _ hp pw mem => ?_⟩
      refine ⟨p, rfl, ⟨_, l_of hp⟩, ?_⟩
      refine for_list (xs := fs.map V.str) (fun j σ H' => ∃ y5 y6 y7 y8, σ = [some mv, some (.ref a), some (.ref b), some (.ref d3), some (.int (k : Int)), y5, y6, y7, y8] ∧ Same H3 H' ∧ ∀ g, g ∈ fs.take j → val x k g = val y k g)
        ⟨_, _, _, _, rfl, Same.refl _, fun g hg => by simp at hg⟩ ?_ ?_ ?_
      · rintro j σ H' _ ⟨_, _, _, _, _, s4, _⟩
        exact l_of (s4 _ _ hp)
      · rintro j v σ H4 hv ⟨y5, y6, y7, y8, rfl, s4, eqs⟩
        rw [List.getElem?_map] at hv
        obtain ⟨g, hg, rfl⟩ := Option.map_eq_some_iff.mp hv
        have s24 : Same H2 H4 := s3.trans s4
        have sB : Same H H4 := sA.trans s24
        have kB := keep_same sB
        have k14 : Keep H1 H4 := keep_same (s2.trans s24)
        obtain ⟨dv, hdv, rd⟩ := hdf k hk4
        refine ⟨_, rfl, _, rfl, a, _, _, vx, rfl, rfl, keep_t kB ha, atI_nat hvx, _, rfl, ?_⟩
        refine ⟨_, rfl, _, rfl, d3, _, _, dv, rfl, rfl, keep_t k14 (t_of hD), atI_nat hdv, ?_⟩
        refine ⟨vx, dv, g, sx, dft k, rfl, rx.keep kB, rd.keep k14, fun v1 hv1 => ?_⟩
        refine ⟨_, rfl, _, rfl, b, _, _, vy, rfl, rfl, keep_t kB hb, atI_nat hvy, _, rfl, ?_⟩
        refine ⟨_, rfl, _, rfl, d3, _, _, dv, rfl, rfl, keep_t k14 (t_of hD), atI_nat hdv, ?_⟩
        refine ⟨vy, dv, g, sy, dft k, rfl, ry.keep kB, rd.keep k14, fun v2 hv2 => ?_⟩
        refine ⟨_, rfl, _, rfl, _, rfl, _, rfl, mv, v1, v2, m, N, k, val x k g, val y k g, rfl, hm.keep kB, ?_, ?_, hk4, ox.val g, oy.val g, fun r H5 s5 ht => ?_⟩
        · rw [val_sec hsx]; exact hv1
        · rw [val_sec hsy]; exact hv2
        -- a field ahead of g is equal
        have below : ∀ g', SLt g' g → val x k g' = val y k g' := fun g' hlt => by
          by_cases hm' : g' ∈ fs
          · obtain ⟨i, hi⟩ := List.mem_iff_getElem?.mp hm'
            have hij : i < j := by
              rcases Nat.lt_or_ge i j with c | c
              · exact c
              · exfalso
                obtain ⟨hi1, hi2⟩ := List.getElem?_eq_some_iff.mp hi
                obtain ⟨hj1, hj2⟩ := List.getElem?_eq_some_iff.mp hg
                rcases Nat.lt_or_ge j i with c2 | c2
                · have z := List.pairwise_iff_getElem.mp pw j i hj1 hi1 c2
                  rw [hi2, hj2] at z
                  exact slt_asymm hlt z
                · have e : i = j := Nat.le_antisymm c2 c
                  subst e
                  rw [hi2] at hj2
                  rw [hj2] at hlt
                  exact slt_irrefl _ hlt
            refine eqs g' ?_
            refine List.mem_iff_getElem?.mpr ⟨i, ?_⟩
            rw [List.getElem?_take, if_pos hij]
            exact hi
          · have z := fun q => hm' ((mem g').mpr q)
            rw [val_sec hsx, val_sec hsy, look_not fun q => z (.inl q), look_not fun q => z (.inr q)]
        refine ⟨_, rfl, rfl, _, rfl, ?_⟩
        rcases ht with ⟨rfl, ht⟩ | ⟨rfl, ht⟩ | ⟨rfl, ht⟩
        · rw [if_pos (by decide)]
          exact ⟨_, rfl, q _ _ (sB.trans s5) (.inl ⟨rfl, k, g, hk4, ht, low, below⟩)⟩
        · rw [if_pos (by decide)]
          exact ⟨_, rfl, q _ _ (sB.trans s5) (.inr (.inl ⟨rfl, k, g, hk4, ht, fun k' h' g' => (low k' h' g').symm, fun g' h' => (below g' h').symm⟩))⟩
        · rw [if_neg (by decide)]
          refine ⟨_, _, _, _, rfl, s4.trans s5, fun g' hg' => ?_⟩
          rw [List.take_add_one, hg] at hg'
          rcases List.mem_append.mp hg' with z | z
          · exact eqs g' z
          · rw [List.mem_singleton.mp z]
            exact ht
      · rintro σ H4 ⟨y5, y6, y7, y8, rfl, s4, eqs⟩
        refine ⟨_, _, _, _, _, rfl, s2.trans (s3.trans s4), fun k' hk' g => ?_⟩
        rcases Nat.lt_or_ge k' k with c | c
        · exact low k' c g
        · have e : k' = k := by omega
          subst e
          by_cases hg : g ∈ fs
          · exact eqs g (by rw [List.length_map, List.take_length]; exact hg)
          · have z := fun q => hg ((mem g).mpr q)
            rw [val_sec hsx, val_sec hsy, look_not fun q => z (.inl q), look_not fun q => z (.inr q)]
    · rintro σ H2 ⟨y4, y5, y6, y7, y8, rfl, s2, low⟩
      exact q 0 _ (s1.trans s2) (.inr (.inr ⟨rfl, req_ext ox oy fun k hk g => low k hk g⟩))
end
end K9W
namespace K9W
open PySem PySem.Spec PyProof.Rows L2 K9 K9S
section
variable {P : Program} {w : World} {K : PySem.W.Frag} {mg : PySem.Str → Option Value} {base : Heap}
/-! ### _law_draws -/
theorem scDr : FnScope ["_law_script", "_law_many", "_law_cells", "_law_rest", "_law_draws_here", "_law_k", "_law_at", "_law_once", "_law_cell_here"] ["_law_script", "_law_many"] (defScope (topS 15)) := ⟨rfl, rfl, rfl, by decide +kernel, rfl, by decide +kernel, by decide +kernel⟩
def spDraws (K : PySem.W.Frag) : Sp := fun vs H Q _ => ∃ (a : Addr) (ns : List Int) (many : Int), vs = [.ref a, .int many] ∧ SqL K H a (ns.map V.int) ∧ ns.length ≤ 100 ∧ (0 ≤ many ∧ many ≤ 1000) ∧
  ∀ p H', Same H H' → H p = none → Dr H' p → Q (.ref p) H'
theorem same_upd {H H' : Hp} {p : Addr} {o : HO} (s : Same H H') (h : H p = none) : Same H (upd H' p o) := fun b x e => by
  rw [upd_ne (ne_of_none e h)]
  exact s _ _ e
theorem ints_get {ns : List Int} {i : Nat} (h : i < ns.length) : (ns.map V.int)[i]? = some (.int (ns.getD i 0)) := by
  rw [List.getElem?_map, List.getElem?_eq_getElem h, List.getD_eq_getElem?_getD, List.getElem?_eq_getElem h]
  rfl
theorem mod_ix {n : Int} {l : Nat} (h : 0 < l) : ∃ j : Nat, n % (l : Int) = (j : Int) ∧ j < l := by
  have h1 := Int.emod_nonneg n (show (l : Int) ≠ 0 by omega)
  have h2 := Int.emod_lt_of_pos n (show (0 : Int) < l by omega)
  exact ⟨(n % (l : Int)).toNat, by omega, by omega⟩
theorem ok_law_draws (T : Tx K mg) {f : Addr} {fd : FuncData} (h : Fn1 K mg "_law_draws" (topS 15) ["_law_script", "_law_many"] f fd) : FnOk P w K mg base CX0 1 f fd ["_law_script", "_law_many"] (spDraws K) := by
  refine h.F.ok scDr (fun vs H Q E q => ?_) (fun cdv A outer s H vs Q E hr q => ?_)
  · obtain ⟨a, ns, many, rfl, _⟩ := q
    rfl
  · obtain ⟨a, ns, many, rfl, ha, ln, ⟨m0, m1⟩, q⟩ := q
    refine ⟨_, pss_cons (ps_setLc (i := 2) (own := [("_law_cell_here", 8)]) rfl scDr.nd rfl rfl (sw_true rfl rfl rfl (by decide +kernel)) (pi_list (pv 0))
        (blkOk_by (own := [("_law_cell_here", 8)]) (N := ["_law_script", "_law_many", "_law_cells", "_law_rest", "_law_draws_here", "_law_k", "_law_at", "_law_once", "_law_cell_here"]) (sc := defScope (topS 15)) (by decide +kernel))
        (fun _ _ _ _ _ => pg_name (i := 8) scDr.nd rfl (Or.inl rfl)) (fun _ _ _ _ _ => pts_nil) (fun _ _ _ _ _ => pe_callTy call_int1 (by rfl) T.bInt (by decide +kernel) (pa_cons (pv 8) pa_nil)))
      (Evl.pss_cut (ps_if (pt_cmpR op_eq (pe_callB call_len_seq (by rfl) T.bLen (by decide +kernel) (pa_cons (pv 2) pa_nil)) pe_int (nomark _))
        (pss_one (ps_expr (pe_bm PySem.F.plainAttrs_list PySem.F.slot_list_append PySem.F.type_list_append mt_append (pv 2) (pa_cons pe_int pa_nil)))) pss_nil)
      (pss_cons (ps_set (i := 3) scDr.nd rfl (.inl rfl) (pe_callTy call_list_of (by rfl) T.bList (by decide +kernel) (pa_cons (pv 2) pa_nil)))
      (pss_cons (ps_set (i := 4) scDr.nd rfl (.inl rfl) (pe_lst pa_nil))
      (pss_cons (ps_for PassesOwn.never rfl (pi_range1 (by rfl) T.bRange (pa_cons (pv 1) pa_nil)) (pg_name (i := 5) scDr.nd rfl (.inl rfl))
        (pss_cons (ps_set (i := 6) scDr.nd rfl (.inl rfl) (pe_op op_mod (pv 5) (pe_callB call_len_seq (by rfl) T.bLen (by decide +kernel) (pa_cons (pv 2) pa_nil))))
        (pss_one (ps_if (pt_cmpR op_ge (pe_ix ix_list (pv 2) (pv 6) (fun _ _ => rfl)) (pe_op op_pow pe_int pe_int) (nomark _))
          (pss_cons (ps_expr (pe_bm PySem.F.plainAttrs_list PySem.F.slot_list_append PySem.F.type_list_append mt_append (pv 4) (pa_cons (pe_op op_mod (pe_callTy call_int1 (by rfl) T.bInt (by decide +kernel) (pa_cons (pe_ix ix_list (pv 3) (pv 6) (fun _ _ => rfl)) pa_nil)) pe_int) pa_nil)))
          (pss_one (ps_asg (pe_op op_fdiv (pe_ix ix_list (pv 3) (pv 6) (fun _ _ => rfl)) pe_int) (pg_sub (pv 3) (pv 6) set_list))))
          (pss_cons (ps_set (i := 7) scDr.nd rfl (.inl rfl) (pe_op op_mod (pe_callTy call_int1 (by rfl) T.bInt (by decide +kernel) (pa_cons
              (pe_op op_add (pe_op op_add (pe_op op_mul (pe_ix ix_list (pv 2) (pv 6) (fun _ _ => rfl)) pe_int) (pe_op op_mul (pv 5) pe_int)) pe_int) pa_nil)) pe_int))
          (pss_one (ps_expr (pe_bm PySem.F.plainAttrs_list PySem.F.slot_list_append PySem.F.type_list_append mt_append (pv 4) (pa_cons (pe_op op_mod (pe_callTy call_int1 (by rfl) T.bInt (by decide +kernel) (pa_cons
              (pe_op op_add (pe_op op_add (pe_op op_mul (pv 7) (pv 7)) (pe_op op_mul pe_int (pv 7))) (pv 5)) pa_nil)) pe_int) pa_nil)))))))))
      (pss_cons (ps_expr (pe_bm0 PySem.F.plainAttrs_list PySem.F.slot_list_reverse PySem.F.type_list_reverse mt_reverse (pv 4)))
      (pss_one (ps_ret (pv 4)))))))), ?_⟩
    -- cells
    refine ⟨_, rfl, a, rfl, ⟨_, ha⟩, fun c nc => ?_⟩
    refine lc_list (xs := ns.map V.int) (fun i H' => Same H H' ∧ H' c = some (.lst ((ns.take i).map V.int))) ⟨same_new nc, by rw [upd_same]; rfl⟩ ?_ ?_ ?_
    · rintro i H' _ ⟨s1, _⟩
      exact s1.seq ha
    · rintro i v H' hv ⟨s1, hc⟩
      rw [List.getElem?_map] at hv
      obtain ⟨n, hn, rfl⟩ := Option.map_eq_some_iff.mp hv
      refine ⟨rfl, yes_turn ?_⟩
      refine ⟨_, rfl, .inl ⟨n, rfl, _, hc, ?_, same_upd s1 nc, ?_⟩⟩
      · rw [List.length_map]
        exact small1000 (Nat.le_trans (List.length_take_le' _ _) (by omega))
      · rw [upd_same, List.take_add_one, hn, List.map_append]
        rfl
    · rintro H1 ⟨s1, hc⟩
      rw [List.length_map, List.take_length] at hc
      -- the cells, not empty
      refine ⟨fun σ H2 => ∃ cs : List Int, σ = [some (.ref a), some (.int many), some (.ref c), none, none, none, none, none, none] ∧ cs ≠ [] ∧ cs.length ≤ 100 ∧ Same H H2 ∧ H2 c = some (.lst (cs.map V.int)), ?_, ?_⟩
      · refine ⟨_, rfl, c, _, rfl, .inl (l_of hc), rfl, _, rfl, ite2 (fun e => ?_) (fun e => ?_)⟩
        · have e1 : ((ns.map V.int).length : Int) = 0 := V.int.inj (of_decide_eq_true e)
          rw [List.length_map] at e1
          have e2 : ns = [] := List.length_eq_zero_iff.mp (by omega)
          subst e2
          refine ⟨_, rfl, .inl ⟨rfl, _, l_of hc⟩, c, _, _, rfl, rfl, hc, small1000 (Nat.zero_le _), [0], rfl, List.cons_ne_nil _ _, by decide, same_upd s1 nc, ?_⟩
          rw [upd_same]
          rfl
        · have e1 : ns ≠ [] := fun z => by
            subst z
            exact e (decide_eq_true rfl)
          exact ⟨ns, rfl, e1, ln, s1, hc⟩
      · rintro σ H2 ⟨cs, rfl, hcs, lcs, s2, hc2⟩
        have hpos : 0 < cs.length := List.length_pos_iff.mpr hcs
        refine ⟨_, rfl, c, _, rfl, .inl (l_of hc2), fun r nr => ?_⟩
        refine ⟨sz0, fun d nd => ?_⟩
        have ncr : c ≠ r := ne_of_none hc2 nr
        have s3 := same_new (o := .lst (cs.map V.int)) nr
        have ncd : c ≠ d := ne_of_none (s3 _ _ hc2) nd
        have nrd : r ≠ d := ne_of_none upd_same nd
        have nr0 : H r = none := s2.free nr
        have nd0 : H d = none := (s2.trans s3).free nd
        generalize hH3 : upd (upd H2 r (.lst (cs.map V.int))) d (.lst []) = H3
        have s4 : Same H H3 := by
          rw [← hH3]
          exact (s2.trans s3).trans (same_new nd)
        refine ⟨_, rfl, many, rfl, by omega, by omega, ?_⟩
        refine for_range (fun i σ H' => ∃ (rs ds : List Int) (y5 y6 y7 y8 : Option V), σ = [some (.ref a), some (.int many), some (.ref c), some (.ref r), some (.ref d), y5, y6, y7, y8] ∧ rs.length = cs.length ∧ ds.length ≤ i ∧ Same H H' ∧
            H' c = some (.lst (cs.map V.int)) ∧ H' r = some (.lst (rs.map V.int)) ∧ H' d = some (.lst (ds.map V.int)))
          ⟨cs, [], none, none, none, none, rfl, rfl, Nat.zero_le _, s4, ?_, ?_, ?_⟩ ?_ ?_
        · rw [← hH3, upd_ne ncd, upd_ne ncr]
          exact hc2
        · rw [← hH3, upd_ne nrd, upd_same]
        · rw [← hH3, upd_same]
          rfl
        · rintro i σ H' hi ⟨rs, ds, y5, y6, y7, y8, rfl, lrs, lds, s5, hc5, hr5, hd5⟩
          have lds2 : ds.length < sizeLine := small1000 (by omega)
          obtain ⟨j, ej, hj⟩ := mod_ix (n := 0 + (i : Int)) (l := (cs.map V.int).length) (by rw [List.length_map]; exact hpos)
          rw [List.length_map] at hj
          have gc := ints_get (ns := cs) hj
          have gr := ints_get (ns := rs) (show j < rs.length by rw [lrs]; exact hj)
          refine ⟨_, rfl, _, rfl, c, _, rfl, .inl (l_of hc5), _, _, rfl, rfl, ?_, ?_⟩
          · rw [List.length_map]
            omega
          have gcJ : atI (cs.map V.int) ((0 + (i : Int)) % ((cs.map V.int).length : Int)) = some (.int (cs.getD j 0)) := by
            rw [ej]
            exact atI_nat gc
          have grJ : atI (rs.map V.int) ((0 + (i : Int)) % ((cs.map V.int).length : Int)) = some (.int (rs.getD j 0)) := by
            rw [ej]
            exact atI_nat gr
          have giJ : ixN (rs.map V.int).length ((0 + (i : Int)) % ((cs.map V.int).length : Int)) = some j := by
            rw [ej]
            exact Evl.ixN_nat (by rw [List.length_map, lrs]; exact hj)
          refine ⟨_, rfl, _, rfl, c, _, _, _, rfl, rfl, l_of hc5, gcJ, ?_⟩
          refine ⟨10, 18, rfl, rfl, ⟨by decide, by decide, by decide⟩, _, _, rfl, rfl, _, rfl, ite2 (fun e => ?_) (fun e => ?_)⟩
          · refine ⟨_, rfl, .inl ⟨rfl, _, l_of hd5⟩, ?_⟩
            refine ⟨_, rfl, _, rfl, r, _, _, _, rfl, rfl, l_of hr5, grJ, .inl ⟨_, rfl, _, _, rfl, rfl, (show (0 : Int) < 1000 by decide), ?_⟩⟩
            refine ⟨d, _, _, rfl, rfl, hd5, by rw [List.length_map]; exact lds2, ?_⟩
            have hr6 : (upd H' d (.lst (ds.map V.int ++ [V.int (rs.getD j 0 % 1000)]))) r = some (.lst (rs.map V.int)) := by
              rw [upd_ne nrd]
              exact hr5
            refine ⟨_, rfl, _, rfl, r, _, _, _, rfl, rfl, l_of hr6, grJ, _, _, rfl, rfl, ⟨by decide, by decide⟩, ?_⟩
            refine ⟨_, rfl, _, rfl, r, _, _, j, rfl, rfl, hr6, giJ, ?_⟩
            refine ⟨rs.set j (rs.getD j 0 / 1000), ds ++ [rs.getD j 0 % 1000], _, _, _, _, rfl, by rw [List.length_set]; exact lrs, by rw [List.length_append, List.length_singleton]; omega, same_upd (same_upd s5 nd0) nr0, ?_, ?_, ?_⟩
            · rw [upd_ne ncr, upd_ne ncd]
              exact hc5
            · rw [upd_same, List.map_set]
            · rw [upd_ne nrd.symm, upd_same, List.map_append]
              rfl
          · refine ⟨_, rfl, _, rfl, c, _, _, _, rfl, rfl, l_of hc5, gcJ, _, _, rfl, rfl, .inr ⟨by decide, by decide⟩, ?_⟩
            refine ⟨_, rfl, _, _, rfl, rfl, .inr ⟨by decide, by decide⟩, _, _, rfl, rfl, _, _, rfl, rfl, .inl ⟨_, rfl, _, _, rfl, rfl, (show (0 : Int) < 2147483647 by decide), ?_⟩⟩
            obtain ⟨o, ho⟩ : ∃ o, o = (cs.getD j 0 * 48271 + (0 + (i : Int)) * 69621 + 11) % 2147483647 := ⟨_, rfl⟩
            have ob : -(2 ^ 64) < (cs.getD j 0 * 48271 + (0 + (i : Int)) * 69621 + 11) % 2147483647 ∧ (cs.getD j 0 * 48271 + (0 + (i : Int)) * 69621 + 11) % 2147483647 < 2 ^ 64 := by omega
            refine ⟨_, rfl, .inl ⟨rfl, _, l_of hd5⟩, ?_⟩
            refine ⟨_, rfl, _, rfl, _, _, rfl, rfl, .inl ob, _, rfl, _, _, rfl, rfl, .inl ⟨by decide, by decide⟩, _, _, rfl, rfl, _, rfl, _, _, rfl, rfl, .inl ⟨_, rfl, _, _, rfl, rfl, (show (0 : Int) < 1000003 by decide), ?_⟩⟩
            refine ⟨d, _, _, rfl, rfl, hd5, by rw [List.length_map]; exact lds2, ?_⟩
            refine ⟨rs, ds ++ [(o * o + 3 * o + (0 + (i : Int))) % 1000003], _, _, _, _, rfl, lrs, by rw [List.length_append, List.length_singleton]; omega, same_upd s5 nd0, ?_, ?_, ?_⟩
            · rw [upd_ne ncd]
              exact hc5
            · rw [upd_ne nrd]
              exact hr5
            · rw [upd_same, List.map_append, ho]
              rfl
        · rintro σ H' ⟨rs, ds, y5, y6, y7, y8, rfl, lrs, lds, s5, hc5, hr5, hd5⟩
          refine ⟨_, rfl, .inl ⟨rfl, _, l_of hd5⟩, d, _, rfl, rfl, hd5, ?_⟩
          refine ⟨_, rfl, q d _ (same_upd s5 nd0) nd0 ⟨ds.reverse, ?_⟩⟩
          rw [upd_same, List.map_reverse]
end
end K9W
namespace K9W
open PySem PySem.Spec PyProof.Rows L2 K9 K9S
section
variable {P : Program} {w : World} {K : PySem.W.Frag} {mg : PySem.Str → Option Value} {base : Heap}
/-! ### _law_take -/
theorem scTa : FnScope ["_law_draws_here", "_law_many"] ["_law_draws_here", "_law_many"] (defScope (topS 16)) := ⟨rfl, rfl, rfl, by decide +kernel, rfl, by decide +kernel, by decide +kernel⟩
def spTake : Sp := fun vs H Q _ => ∃ (d : Addr) (many : Int), vs = [.ref d, .int many] ∧ Dr H d ∧ 0 < many ∧ ∀ k H', 0 ≤ k → k < many → Ext d H H' → Q (.int k) H'
theorem ok_law_take (T : Tx K mg) {f : Addr} {fd : FuncData} (h : Fn1 K mg "_law_take" (topS 16) ["_law_draws_here", "_law_many"] f fd) : FnOk P w K mg base CX0 1 f fd ["_law_draws_here", "_law_many"] spTake := by
  refine h.F.ok scTa (fun vs H Q E q => ?_) (fun cdv A outer s H vs Q E hr q => ?_)
  · obtain ⟨d, many, rfl, _⟩ := q
    rfl
  · obtain ⟨d, many, rfl, ⟨ns, hd⟩, hm, q⟩ := q
    refine ⟨_, pss_cons (ps_if (pt_cmpR op_eq (pe_callB call_len_seq (by rfl) T.bLen (by decide +kernel) (pa_cons (pv 0) pa_nil)) pe_int (nomark _)) (pss_one (ps_ret pe_int)) pss_nil)
      (pss_one (ps_ret (pe_op op_mod (pe_callTy call_int1 (by rfl) T.bInt (by decide +kernel) (pa_cons (pe_bm0 PySem.F.plainAttrs_list PySem.F.slot_list_pop PySem.F.type_list_pop mt_pop (pv 0)) pa_nil)) (pv 1)))), ?_⟩
    refine ⟨_, rfl, d, _, rfl, .inl (l_of hd), rfl, _, rfl, ite2 (fun e => ?_) (fun e => ?_)⟩
    · exact q 0 _ (Int.le_refl _) hm (Ext.refl ⟨ns, hd⟩)
    · have e1 : ns ≠ [] := fun z => by
        subst z
        exact e (decide_eq_true rfl)
      have hpos : 0 < ns.length := List.length_pos_iff.mpr e1
      refine ⟨_, rfl, .inl ⟨rfl, _, l_of hd⟩, d, _, .int (ns.getD (ns.length - 1) 0), rfl, rfl, hd, ?_, .inl ⟨_, rfl, _, rfl, _, _, rfl, rfl, hm, ?_⟩⟩
      · rw [List.length_map]
        exact ints_get (by omega)
      · refine q _ _ (Int.emod_nonneg _ (by omega)) (Int.emod_lt_of_pos _ hm) ?_
        rw [← List.map_dropLast]
        exact Ext.draw ⟨ns, hd⟩
/-! ### _law_cell -/
theorem scCe : FnScope ["_law_script", "_law_draws_here"] ["_law_script", "_law_draws_here"] (defScope (topS 17)) := ⟨rfl, rfl, rfl, by decide +kernel, rfl, by decide +kernel, by decide +kernel⟩
/-- a list of ints that can be read, whatever becomes of the draws at d -/
def Script (K : PySem.W.Frag) (H : Hp) (d a : Addr) (ns : List Int) : Prop := (Rd H a (.lst (ns.map V.int)) ∧ a ≠ d) ∨ ∀ H', SqL K H' a (ns.map V.int)
theorem Script.mk {H H' : Hp} {d a : Addr} {ns : List Int} (h : SqL K H a (ns.map V.int)) (s : Same H H') (n : H d = none) : Script K H' d a ns := by
  rcases h with (h1 | ⟨o, h1⟩) | h1
  · exact .inl ⟨.inl (s _ _ h1), ne_of_none h1 n⟩
  · exact .inl ⟨.inr ⟨o, s _ _ h1⟩, ne_of_none h1 n⟩
  · exact .inr fun _ => .inr h1
theorem Script.sq {H : Hp} {d a : Addr} {ns : List Int} (h : Script K H d a ns) : SqL K H a (ns.map V.int) := by
  rcases h with ⟨h, _⟩ | h
  · exact .inl h
  · exact h _
theorem Script.ext {H H' : Hp} {d a : Addr} {ns : List Int} (h : Script K H d a ns) (e : Ext d H H') : SqL K H' a (ns.map V.int) := by
  rcases h with ⟨h1 | ⟨o, h1⟩, n⟩ | h1
  · exact .inl (.inl (e.same _ _ n h1))
  · exact .inl (.inr ⟨o, e.same _ _ n h1⟩)
  · exact h1 _
def spLCell (K : PySem.W.Frag) : Sp := fun vs H Q _ => ∃ (a d : Addr) (ns : List Int), vs = [.ref a, .ref d] ∧ Script K H d a ns ∧ Dr H d ∧ ∀ k H', Ext d H H' → Q (.int k) H'
theorem ok_law_cell (T : Tx K mg) {f : Addr} {fd : FuncData} (h : Fn1 K mg "_law_cell" (topS 17) ["_law_script", "_law_draws_here"] f fd) : FnOk P w K mg base CX0 2 f fd ["_law_script", "_law_draws_here"] (spLCell K) := by
  obtain ⟨f1, fd1, h1⟩ := T.law_take
  have G1 : FnOk P w K mg base CX0 1 f1 fd1 ["_law_draws_here", "_law_many"] spTake := ok_law_take T h1
  refine h.F.ok scCe (fun vs H Q E q => ?_) (fun cdv A outer s H vs Q E hr q => ?_)
  · obtain ⟨a, d, ns, rfl, _⟩ := q
    rfl
  · obtain ⟨a, d, ns, rfl, hs, hd, q⟩ := q
    refine ⟨_, pss_cons (ps_if (pt_cmpR op_eq (pe_callB call_len_seq (by rfl) T.bLen (by decide +kernel) (pa_cons (pv 0) pa_nil)) pe_int (nomark _)) (pss_one (ps_ret pe_int)) pss_nil)
      (pss_one (ps_ret (pe_callTy call_int1 (by rfl) T.bInt (by decide +kernel) (pa_cons (pe_ix ix_list (pv 0)
        (pe_call G1 hr (by rfl) h1.g h1.F.kp h1.b .nil pass0 (pa_cons (pv 1) (pa_cons (pe_callB call_len_seq (by rfl) T.bLen (by decide +kernel) (pa_cons (pv 0) pa_nil)) pa_nil))) (fun _ _ => rfl)) pa_nil)))), ?_⟩
    refine ⟨_, rfl, a, _, rfl, .inl hs.sq, rfl, _, rfl, ite2 (fun e => ?_) (fun e => ?_)⟩
    · exact q 0 _ (Ext.refl hd)
    · have e1 : ns ≠ [] := fun z => by
        subst z
        exact e (decide_eq_true rfl)
      have hpos : 0 < ns.length := List.length_pos_iff.mpr e1
      refine ⟨_, rfl, _, rfl, _, rfl, a, _, rfl, .inl hs.sq, d, _, rfl, hd, by rw [List.length_map]; omega, fun k H' k0 k1 ex => ?_⟩
      rw [List.length_map] at k1
      have e2 : k = ((k.toNat : Nat) : Int) := by omega
      refine ⟨a, _, k, .int (ns.getD k.toNat 0), rfl, rfl, hs.ext ex, ?_, .inl ⟨ns.getD k.toNat 0, rfl, q _ _ ex⟩⟩
      rw [e2]
      exact atI_nat (ints_get (by omega))
/-! ### _law_word -/
theorem scWo : FnScope ["_law_number", "_law_word_here", "_law_k"] ["_law_number"] (defScope (topS 18)) := ⟨rfl, rfl, rfl, by decide +kernel, rfl, by decide +kernel, by decide +kernel⟩
def spLWord : Sp := fun vs H Q _ => ∃ n : Int, vs = [.int n] ∧ 1 ≤ n ∧ ∀ x, IsW x → Q (.str x) H
theorem let_at {k : Int} (h0 : 0 ≤ k) (h1 : k < 26) : atI (PySem.Str.ofString "abcdefghijklmnopqrstuvwxyz").cps.toList k = some (97 + k.toNat) := by
  have h2 : ∀ j : _root_.Fin 26, (PySem.Str.ofString "abcdefghijklmnopqrstuvwxyz").cps.toList[j.val]? = some (97 + j.val) := by decide +kernel
  have e : k = ((k.toNat : Nat) : Int) := by omega
  conv => lhs; rw [e]
  exact atI_nat (h2 ⟨k.toNat, by omega⟩)
theorem ok_law_word (T : Tx K mg) {f : Addr} {fd : FuncData} (h : Fn1 K mg "_law_word" (topS 18) ["_law_number"] f fd) : FnOk P w K mg base CX0 1 f fd ["_law_number"] spLWord := by
  refine h.F.ok scWo (fun vs H Q E q => ?_) (fun cdv A outer s H vs Q E hr q => ?_)
  · obtain ⟨n, rfl, _⟩ := q
    rfl
  · obtain ⟨n, rfl, hn, q⟩ := q
    refine ⟨_, pss_cons (ps_set (i := 1) scWo.nd rfl (.inl rfl) pe_str)
      (pss_cons (ps_for PassesOwn.never rfl (pi_range1 (by rfl) T.bRange (pa_cons pe_int pa_nil)) (pg_name (i := 2) scWo.nd rfl (.inl rfl))
        (pss_cons (ps_if (pt_cmpR op_lt (pv 0) pe_int (nomark _)) (pss_one ps_break) pss_nil)
        (pss_cons (ps_set (i := 1) scWo.nd rfl (.inl rfl) (pe_op op_add_str (pe_ix ix_str pe_str (pe_op op_mod (pe_callTy call_int1 (by rfl) T.bInt (by decide +kernel) (pa_cons (pe_op op_sub (pv 0) pe_int) pa_nil)) pe_int) (fun _ _ => rfl)) (pv 1)))
        (pss_one (ps_set (i := 0) scWo.nd rfl (.inl rfl) (pe_op op_fdiv (pe_op op_sub (pv 0) pe_int) pe_int))))))
      (pss_one (ps_ret (pv 1)))), ?_⟩
    refine ⟨60, rfl, by decide, by decide, ?_⟩
    refine for_range (fun i σ H' => ∃ (z : Int) (x : PySem.Str) (y2 : Option V), σ = [some (.int z), some (.str x), y2] ∧ H' = H ∧ x.cps.toList.length ≤ i ∧ (∀ c ∈ x.cps.toList, 97 ≤ c ∧ c ≤ 122) ∧ (x.cps.toList = [] → 1 ≤ z) ∧ (0 < i → x.cps.toList ≠ []))
      ⟨n, PySem.Str.empty, none, rfl, rfl, Nat.zero_le _, fun _ h => (nomatch h), fun _ => hn, fun h => absurd h (Nat.lt_irrefl _)⟩ ?_ ?_
    · rintro i σ H' hi ⟨z, x, y2, rfl, rfl, lx, hx, hz, hne⟩
      have hi60 : i < 60 := hi
      refine ⟨_, rfl, _, _, rfl, rfl, _, rfl, ite2 (fun e => ?_) (fun e => ?_)⟩
      · have e1 := of_decide_eq_true e
        refine ⟨_, rfl, q x ⟨fun c => absurd (hz c) (by omega), by omega, hx⟩⟩
      · have m0 := Int.emod_nonneg (z - 1) (show (26 : Int) ≠ 0 by decide)
        have m1 := Int.emod_lt_of_pos (z - 1) (show (0 : Int) < 26 by decide)
        refine ⟨_, rfl, _, _, rfl, rfl, .inl ⟨_, rfl, _, _, rfl, rfl, (show (0 : Int) < 26 by decide), ?_⟩⟩
        refine ⟨_, _, _, rfl, rfl, szl (by decide), let_at m0 m1, _, rfl, _, _, rfl, rfl, ?_, ?_⟩
        · refine szl ?_
          show 1 + x.cps.size ≤ 1000
          rw [← Array.length_toList]
          omega
        refine ⟨_, rfl, _, _, rfl, rfl, _, _, rfl, rfl, ⟨by decide, by decide⟩, ?_⟩
        have ec : ((⟨#[97 + ((z - 1) % 26).toNat]⟩ : PySem.Str) ++ x).cps.toList = (97 + ((z - 1) % 26).toNat) :: x.cps.toList := by
          show (#[97 + ((z - 1) % 26).toNat] ++ x.cps).toList = _
          simp
        refine ⟨_, _, _, rfl, rfl, ?_, ?_, ?_, ?_⟩
        · rw [ec, List.length_cons]
          omega
        · intro c hc
          rw [ec] at hc
          rcases List.mem_cons.mp hc with e1 | e1
          · omega
          · exact hx c e1
        · intro c
          rw [ec] at c
          cases c
        · intro _ c
          rw [ec] at c
          cases c
    · rintro σ H' ⟨z, x, y2, rfl, rfl, lx, hx, hz, hne⟩
      have lx60 : x.cps.toList.length ≤ 60 := lx
      exact ⟨_, rfl, q x ⟨hne (show 0 < 60 by decide), lx60, hx⟩⟩
/-! ### _law_some_word -/
theorem scSW : FnScope ["_law_draws_here", "_law_number", "_law_great"] ["_law_draws_here"] (defScope (topS 19)) := ⟨rfl, rfl, rfl, by decide +kernel, rfl, by decide +kernel, by decide +kernel⟩
def spSomeWord : Sp := fun vs H Q _ => ∃ d : Addr, vs = [.ref d] ∧ Dr H d ∧ ∀ x H', IsW x → Ext d H H' → Q (.str x) H'
theorem ok_law_some_word (T : Tx K mg) {f : Addr} {fd : FuncData} (h : Fn1 K mg "_law_some_word" (topS 19) ["_law_draws_here"] f fd) : FnOk P w K mg base CX0 2 f fd ["_law_draws_here"] spSomeWord := by
  obtain ⟨f1, fd1, h1⟩ := T.law_take
  have G1 : FnOk P w K mg base CX0 1 f1 fd1 ["_law_draws_here", "_law_many"] spTake := ok_law_take T h1
  obtain ⟨f2, fd2, h2⟩ := T.law_word
  have G2 : FnOk P w K mg base CX0 1 f2 fd2 ["_law_number"] spLWord := ok_law_word T h2
  refine h.F.ok scSW (fun vs H Q E q => ?_) (fun cdv A outer s H vs Q E hr q => ?_)
  · obtain ⟨d, rfl, _⟩ := q
    rfl
  · obtain ⟨d, rfl, hd, q⟩ := q
    refine ⟨_, pss_cons (ps_set (i := 1) scSW.nd rfl (.inl rfl) (pe_call G1 hr (by rfl) h1.g h1.F.kp h1.b .nil pass0 (pa_cons (pv 0) (pa_cons pe_int pa_nil))))
      (pss_cons (ps_if (pt_cmpR op_lt (pv 1) pe_int (nomark _)) (pss_one (ps_ret (pe_call G2 hr (by rfl) h2.g h2.F.kp h2.b .nil pass0 (pa_cons
          (pe_op op_add (pe_op op_add pe_int (pe_op op_mod (pv 1) pe_int)) (pe_op op_mul pe_int (pe_op op_mod (pe_op op_fdiv (pv 1) pe_int) pe_int))) pa_nil)))) pss_nil)
      (pss_cons (ps_if (pt_cmpR op_lt (pv 1) pe_int (nomark _)) (pss_one (ps_ret (pe_call G2 hr (by rfl) h2.g h2.F.kp h2.b .nil pass0 (pa_cons
          (pe_op op_add pe_int (pe_call G1 hr (by rfl) h1.g h1.F.kp h1.b .nil pass0 (pa_cons (pv 0) (pa_cons pe_int pa_nil)))) pa_nil)))) pss_nil)
      (pss_cons (ps_set (i := 2) scSW.nd rfl (.inl rfl) (pe_op op_add (pe_op op_mul pe_int (pe_call G1 hr (by rfl) h1.g h1.F.kp h1.b .nil pass0 (pa_cons (pv 0) (pa_cons pe_int pa_nil))))
          (pe_op op_mul pe_int (pe_call G1 hr (by rfl) h1.g h1.F.kp h1.b .nil pass0 (pa_cons (pv 0) (pa_cons pe_int pa_nil))))))
      (Evl.pss_cut (ps_if (pt_cmpR op_ge (pv 1) pe_int (nomark _)) (pss_one (ps_set (i := 2) scSW.nd rfl (.inl rfl) (pe_op op_mul (pv 2) (pe_op op_pow pe_int pe_int)))) pss_nil)
      (pss_one (ps_ret (pe_call G2 hr (by rfl) h2.g h2.F.kp h2.b .nil pass0 (pa_cons
          (pe_op op_add (pe_op op_add pe_int (pv 2)) (pe_call G1 hr (by rfl) h1.g h1.F.kp h1.b .nil pass0 (pa_cons (pv 0) (pa_cons pe_int pa_nil)))) pa_nil)))))))), ?_⟩
    refine ⟨_, rfl, d, _, rfl, hd, (show (0 : Int) < 1000 by decide), fun n H1 n0 n1 e1 => ?_⟩
    refine ⟨_, rfl, _, _, rfl, rfl, _, rfl, ite2 (fun c => ?_) (fun c => ?_)⟩
    · have m0 := Int.emod_nonneg n (show (6 : Int) ≠ 0 by decide)
      have m2 := Int.emod_nonneg (n / 6) (show (2 : Int) ≠ 0 by decide)
      refine ⟨_, rfl, _, _, rfl, rfl, (show (0 : Int) < 6 by decide), _, _, rfl, rfl, _, rfl, _, _, rfl, rfl, ⟨by decide, by decide⟩, _, _, rfl, rfl, (show (0 : Int) < 2 by decide), _, _, rfl, rfl, .inl ⟨by decide, by decide⟩, _, _, rfl, rfl, ?_⟩
      refine ⟨_, rfl, ?_, fun x hx => q x _ hx e1⟩
      show (1 : Int) ≤ 1 + n % 6 + 26 * (n / 6 % 2)
      omega
    · refine ⟨_, rfl, _, _, rfl, rfl, _, rfl, ite2 (fun c2 => ?_) (fun c2 => ?_)⟩
      · refine ⟨_, rfl, d, _, rfl, e1.dr, (show (0 : Int) < 1000 by decide), fun k H2 k0 k1 e2 => ?_⟩
        refine ⟨_, _, rfl, rfl, _, rfl, ?_, fun x hx => q x _ hx (e1.trans e2)⟩
        show (1 : Int) ≤ 1 + k
        omega
      · refine ⟨_, rfl, d, _, rfl, e1.dr, (show (0 : Int) < 1000 by decide), fun k H2 k0 k1 e2 => ?_⟩
        refine ⟨_, _, rfl, rfl, .inl ⟨by decide, by decide⟩, _, rfl, d, _, rfl, e2.dr, (show (0 : Int) < 1000 by decide), fun l H3 l0 l1 e3 => ?_⟩
        refine ⟨_, _, rfl, rfl, .inl ⟨by decide, by decide⟩, _, _, rfl, rfl, ?_⟩
        refine ⟨fun σ H' => ∃ g : Int, 0 ≤ g ∧ σ = [some (.ref d), some (.int n), some (.int g)] ∧ H' = H3, ?_, ?_⟩
        · refine ⟨_, rfl, _, _, rfl, rfl, _, rfl, ite2 (fun c3 => ?_) (fun c3 => ?_)⟩
          · refine ⟨_, rfl, 10, 15, rfl, rfl, ⟨by decide, by decide, by decide⟩, _, _, rfl, rfl, .inr ⟨by decide, by decide⟩, _, ?_, rfl, rfl⟩
            show (0 : Int) ≤ (1000000 * k + 1000 * l) * 10 ^ 15
            omega
          · refine ⟨_, ?_, rfl, rfl⟩
            show (0 : Int) ≤ 1000000 * k + 1000 * l
            omega
        · rintro σ H' ⟨g, g0, rfl, rfl⟩
          refine ⟨_, rfl, _, _, rfl, rfl, _, rfl, d, _, rfl, e3.dr, (show (0 : Int) < 1000 by decide), fun z H4 z0 z1 e4 => ?_⟩
          refine ⟨_, _, rfl, rfl, _, rfl, ?_, fun x hx => q x _ hx (((e1.trans e2).trans e3).trans e4)⟩
          show (1 : Int) ≤ 1 + g + z
          omega
/-! ### _law_is_integer -/
theorem scII : FnScope ["_law_value"] ["_law_value"] (defScope (topS 20)) := ⟨rfl, rfl, rfl, by decide +kernel, rfl, by decide +kernel, by decide +kernel⟩
def spIsInt : Sp := fun vs H Q _ => ∃ n : Int, vs = [.int n] ∧ Q (.bl true) H
theorem ok_law_is_integer (T : Tx K mg) {f : Addr} {fd : FuncData} (h : Fn1 K mg "_law_is_integer" (topS 20) ["_law_value"] f fd) : FnOk P w K mg base CX0 1 f fd ["_law_value"] spIsInt := by
  refine h.F.ok scII (fun vs H Q E q => ?_) (fun cdv A outer s H vs Q E hr q => ?_)
  · obtain ⟨n, rfl, _⟩ := q
    rfl
  · obtain ⟨n, rfl, q⟩ := q
    refine ⟨_, pss_one (ps_ret (pe_and (pe_callB call_isi (by rfl) T.bIsi (by decide +kernel) (pa_cons (pv 0) (pa_cons (pe_bltn (v := .ty "int") (by rfl) T.bInt (by decide +kernel) rfl) pa_nil)))
      (pe_one (pe_not (pe_callB call_isi (by rfl) T.bIsi (by decide +kernel) (pa_cons (pv 0) (pa_cons (pe_bltn (v := .ty "bool") (by rfl) T.bBool (by decide +kernel) rfl) pa_nil))))))), ?_⟩
    refine ⟨_, rfl, _, _, _, _, true, rfl, .ty "int", .base (.int n), kit_ty (by decide +kernel), true, rfl, iteT ?_⟩
    exact ⟨_, rfl, _, _, _, _, false, rfl, .ty "bool", .base (.int n), kit_ty (by decide +kernel), false, rfl, q⟩
end
end K9W
namespace K9W
open PySem PySem.Spec PyProof.Rows L2 K9 K9S
theorem sz6 : 6 ≤ sizeLine := szl (by decide)
/-- an object other than the draws is written, that stood not at first -/
theorem Ext.mut {d p : Addr} {H H' : Hp} {o : HO} (e : Ext d H H') (h : H p = none) (n : p ≠ d) : Ext d H (upd H' p o) := by
  refine ⟨fun b x nb q => ?_, ?_⟩
  · rw [upd_ne (ne_of_none q h)]
    exact e.same b x nb q
  · obtain ⟨ns, hd⟩ := e.dr
    exact ⟨ns, by rw [upd_ne n.symm]; exact hd⟩
theorem Dr.ne {d p : Addr} {H : Hp} (h : Dr H d) (n : H p = none) : p ≠ d := by
  obtain ⟨ns, hd⟩ := h
  exact (ne_of_none hd n).symm
section
variable {P : Program} {w : World} {K : PySem.W.Frag} {mg : PySem.Str → Option Value} {base : Heap}
/-! ### _law_worth -/
theorem scWh : FnScope ["_law_draws_here", "_law_kind", "_law_cell_here", "_law_row", "_law_k"] ["_law_draws_here", "_law_kind", "_law_cell_here"] (defScope (topS 21)) := ⟨rfl, rfl, rfl, by decide +kernel, rfl, by decide +kernel, by decide +kernel⟩
/-- a path of at most four parts -/
def P4 : Cv → Prop
  | .path ps => ps.length ≤ 4
  | _ => True
def spWorth (K : PySem.W.Frag) : Sp := fun vs H Q _ => ∃ (d : Addr) (k : Nat) (z : Int), vs = [.ref d, .int (k : Int), .int z] ∧ Dr H d ∧ k < 4 ∧ ∀ v c H', Ext d H H' → VC K H' v c → OkV 4 k c → P4 c → Q v H'
theorem mem_at6 {k : Int} (h0 : 0 ≤ k) (h1 : k < 6) (p : Int → Prop) {a b c d e f : Int} (ha : p a) (hb : p b) (hc : p c) (hd : p d) (he : p e) (hf : p f) : ∃ n, atI [V.int a, V.int b, V.int c, V.int d, V.int e, V.int f] k = some (.int n) ∧ p n := by
  have e1 : k = ((k.toNat : Nat) : Int) := by omega
  have e2 : k.toNat < 6 := by omega
  rw [e1]
  generalize k.toNat = j at e2
  match j, e2 with
  | 0, _ => exact ⟨a, atI_nat (j := 0) rfl, ha⟩
  | 1, _ => exact ⟨b, atI_nat (j := 1) rfl, hb⟩
  | 2, _ => exact ⟨c, atI_nat (j := 2) rfl, hc⟩
  | 3, _ => exact ⟨d, atI_nat (j := 3) rfl, hd⟩
  | 4, _ => exact ⟨e, atI_nat (j := 4) rfl, he⟩
  | 5, _ => exact ⟨f, atI_nat (j := 5) rfl, hf⟩
theorem ok_law_worth (T : Tx K mg) {f : Addr} {fd : FuncData} (h : Fn1 K mg "_law_worth" (topS 21) ["_law_draws_here", "_law_kind", "_law_cell_here"] f fd) : FnOk P w K mg base CX0 3 f fd ["_law_draws_here", "_law_kind", "_law_cell_here"] (spWorth K) := by
  obtain ⟨f1, fd1, h1⟩ := T.law_take
  have G1 : FnOk P w K mg base CX0 1 f1 fd1 ["_law_draws_here", "_law_many"] spTake := ok_law_take T h1
  obtain ⟨f2, fd2, h2⟩ := T.law_some_word
  have G2 : FnOk P w K mg base CX0 2 f2 fd2 ["_law_draws_here"] spSomeWord := ok_law_some_word T h2
  refine h.F.ok scWh (fun vs H Q E q => ?_) (fun cdv A outer s H vs Q E hr q => ?_)
  · obtain ⟨d, k, z, rfl, _⟩ := q
    rfl
  · obtain ⟨d, k, z, rfl, hd, hk, q⟩ := q
    refine ⟨_, pss_cons (ps_if (pt_cmpR op_eq (pv 1) pe_int (nomark _)) (pss_one (ps_ret (pe_call G2 hr (by rfl) h2.g h2.F.kp h2.b .nil pass0 (pa_cons (pv 0) pa_nil)))) pss_nil)
      (pss_cons (ps_if (pt_cmpR op_eq (pv 1) pe_int (nomark _)) (pss_one (ps_ret (pe_ix ix_list
          (pe_lst (pa_cons pe_int (pa_cons (pe_un un_neg pe_int) (pa_cons pe_int (pa_cons (pe_un un_neg pe_int) (pa_cons
            (pe_op op_add (pv 2) (pe_callTy call_int1 (by rfl) T.bInt (by decide +kernel) (pa_cons (pe_cmpR op_eq (pv 2) pe_int (nomark _)) pa_nil))) (pa_cons
            (pe_op op_add pe_int (pe_call G1 (hr.mono (by decide)) (by rfl) h1.g h1.F.kp h1.b .nil pass0 (pa_cons (pv 0) (pa_cons pe_int pa_nil)))) pa_nil)))))))
          (pe_call G1 (hr.mono (by decide)) (by rfl) h1.g h1.F.kp h1.b .nil pass0 (pa_cons (pv 0) (pa_cons pe_int pa_nil))) (fun _ _ => rfl)))) pss_nil)
      (pss_cons (ps_setLc (i := 3) (own := [("_law_k", 4)]) rfl scWh.nd rfl rfl (sw_true rfl rfl rfl (by decide +kernel))
          (pi_range1 (by rfl) T.bRange (pa_cons (pe_op op_add pe_int (pe_call G1 (hr.mono (by decide)) (by rfl) h1.g h1.F.kp h1.b .nil pass0 (pa_cons (pv 0) (pa_cons pe_int pa_nil)))) pa_nil))
          (blkOk_by (own := [("_law_k", 4)]) (N := ["_law_draws_here", "_law_kind", "_law_cell_here", "_law_row", "_law_k"]) (sc := defScope (topS 21)) (by decide +kernel))
          (fun _ _ _ _ _ => pg_name (i := 4) scWh.nd rfl (Or.inl rfl)) (fun _ _ _ _ _ => pts_nil) (fun _ _ _ _ _ => pe_call G2 hr (by rfl) h2.g h2.F.kp h2.b .nil pass0 (pa_cons (pv 0) pa_nil)))
      (Evl.pss_cut (ps_if (pt_cmpR op_eq (pv 1) pe_int (nomark _)) (pss_one (ps_set (i := 3) scWh.nd rfl (.inl rfl) (pe_callB (cr_sortedSS rfl) (by rfl) T.bSorted (by decide +kernel)
          (pa_cons (pe_callTy (cr_setOfS rfl) (by rfl) T.bSet (by decide +kernel) (pa_cons (pv 3) pa_nil)) pa_nil)))) pss_nil)
      (pss_one (ps_ret (pe_callTy call_tuple_of (by rfl) T.bTuple (by decide +kernel) (pa_cons (pv 3) pa_nil))))))), ?_⟩
    refine ⟨_, rfl, rfl, _, rfl, ite2 (fun c => ?_) (fun c => ?_)⟩
    · have e0 : (k : Int) = 0 := V.int.inj (of_decide_eq_true c)
      have ek : k = 0 := by omega
      subst ek
      exact ⟨_, rfl, d, rfl, hd, fun x H' hx ex => q (.str x) (.word x) H' ex rfl hx trivial⟩
    · have n0 : k ≠ 0 := fun e => c (decide_eq_true (by rw [e]; rfl))
      refine ⟨_, rfl, rfl, _, rfl, ite2 (fun c => ?_) (fun c => ?_)⟩
      · have e3 : (k : Int) = 3 := V.int.inj (of_decide_eq_true c)
        have ek : k = 3 := by omega
        subst ek
        refine ⟨1, rfl, 2, rfl, _, rfl, _, rfl, rfl, .inr ⟨_, rfl, _, _, rfl, rfl, _, rfl, d, _, rfl, hd, (show (0 : Int) < 9 by decide), fun u H1 u0 u1 e1 => ?_⟩⟩
        refine ⟨_, _, rfl, rfl, sz6, fun p np => ?_⟩
        have npd : p ≠ d := e1.dr.ne np
        have e2 := e1.new (o := .lst [.int 1, .int (-1), .int 2, .int (-2), .int (z + (if decide (V.int z = V.int 0) = true then 1 else 0)), .int (1 + u)]) np
        refine ⟨_, rfl, d, _, rfl, e2.dr, (show (0 : Int) < 6 by decide), fun j H2 j0 j1 e3 => ?_⟩
        obtain ⟨n, hn, pn⟩ := mem_at6 j0 j1 (fun n => n ≠ 0) (a := 1) (b := -1) (c := 2) (d := -2) (e := z + (if decide (V.int z = V.int 0) = true then 1 else 0)) (f := 1 + u) (by decide) (by decide) (by decide) (by decide) (by
          by_cases ez : z = 0
          · subst ez
            rw [if_pos (decide_eq_true rfl)]
            decide
          · rw [if_neg fun q => ez (V.int.inj (of_decide_eq_true q))]
            omega) (by omega)
        exact ⟨p, _, j, _, rfl, rfl, l_of (e3.same p _ npd upd_same), hn, q (.int n) (.num n) H2 (e2.trans e3) rfl pn trivial⟩
      · have n3 : k ≠ 3 := fun e => c (decide_eq_true (by rw [e]; rfl))
        refine ⟨_, rfl, d, _, rfl, hd, (show (0 : Int) < 4 by decide), fun u H1 u0 u1 e1 => ?_⟩
        refine ⟨_, _, rfl, rfl, _, rfl, ?_, ?_, fun D nD => ?_⟩
        · show -(2 ^ 62) ≤ 1 + u
          omega
        · show 1 + u < 2 ^ 62
          omega
        have nDd : D ≠ d := e1.dr.ne nD
        have nDH : H D = none := by
          cases e : H D with
          | none => rfl
          | some o =>
            have := e1.same D o nDd e
            rw [nD] at this
            cases this
        refine lc_range (lo := 0) (n := (1 + u).toNat) (fun i H' => ∃ ws : List PySem.Str, ws.length = i ∧ (∀ x ∈ ws, IsW x) ∧ Ext d H H' ∧ H' D = some (.lst (ws.map V.str)))
          ⟨[], rfl, fun _ h => (nomatch h), e1.new nD, upd_same⟩ ?_ ?_
        · rintro i H' hi ⟨ws, lw, hw, ex, hD⟩
          refine ⟨rfl, yes_turn ?_⟩
          refine ⟨_, rfl, d, rfl, ex.dr, fun x H2 hx e2 => ?_⟩
          have hD2 := e2.same D _ nDd hD
          refine ⟨_, hD2, small1000 (by rw [List.length_map]; omega), ws ++ [x], by rw [List.length_append, lw]; rfl, fun y hy => ?_, (ex.trans e2).mut nDH nDd, ?_⟩
          · rcases List.mem_append.mp hy with q1 | q1
            · exact hw y q1
            · rw [List.mem_singleton.mp q1]; exact hx
          · rw [upd_same, List.map_append]
            rfl
        · rintro H2 ⟨ws, lw, hw, ex, hD⟩
          have lw1 : 1 ≤ ws.length ∧ ws.length ≤ 4 := by omega
          refine ⟨fun σ H' => ∃ (p : Addr) (us : List PySem.Str) (y4 : Option V), σ = [some (.ref d), some (.int (k : Int)), some (.int z), some (.ref p), y4] ∧ H' p = some (.lst (us.map V.str)) ∧ us ≠ [] ∧ us.length ≤ 4 ∧ (∀ x ∈ us, IsW x) ∧ (k = 2 → us.Pairwise SLt) ∧ Ext d H H', ?_, ?_⟩
          · refine ⟨_, rfl, rfl, _, rfl, ite2 (fun c => ?_) (fun c => ?_)⟩
            · refine ⟨_, rfl, D, ws, rfl, l_of hD, Nat.lt_of_le_of_lt (show ws.length + 1 ≤ 5 by omega) (by decide), fun a na => ?_⟩
              have l1 := length_addsL ws
              refine ⟨a, _, rfl, upd_same, by omega, fun ys p pw pm np => ?_⟩
              have mm : ∀ x, x ∈ ys ↔ x ∈ ws := fun x => by rw [pm.mem_iff, mem_addsL]
              refine ⟨p, ys, _, rfl, upd_same, fun e => ?_, by rw [pm.length_eq]; omega, fun x hx => hw x ((mm x).mp hx), fun _ => pw, (ex.new na).new np⟩
              obtain ⟨x, hx⟩ := List.exists_mem_of_length_pos (l := ws) (by omega)
              have := (mm x).mpr hx
              rw [e] at this
              exact nomatch this
            · have n2 : k ≠ 2 := fun e => c (decide_eq_true (by rw [e]; rfl))
              exact ⟨D, ws, _, rfl, hD, fun e => by rw [e] at lw1; exact absurd lw1.1 (by decide), lw1.2, hw, fun e => absurd e n2, ex⟩
          · rintro σ H3 ⟨p, us, y4, rfl, hp, ne, lu, hu, asc, ex3⟩
            refine ⟨_, rfl, p, _, rfl, .inl ⟨l_of hp, fun l nl => ?_⟩⟩
            have k12 : k = 1 ∨ k = 2 := by omega
            rcases k12 with rfl | rfl
            · exact q (.ref l) (.path us) _ (ex3.new nl) ⟨l, rfl, t_of upd_same⟩ ⟨ne, by omega, hu⟩ lu
            · exact q (.ref l) (.set us) _ (ex3.new nl) ⟨l, rfl, t_of upd_same⟩ ⟨ne, lu, asc rfl, hu⟩ trivial
end
end K9W
namespace K9W
open PySem PySem.Spec PyProof.Rows L2 K9 K9S
theorem Ext.none {d p : Addr} {H H' : Hp} (e : Ext d H H') (h : H' p = none) (n : p ≠ d) : H p = none := by
  cases q : H p with
  | none => rfl
  | some o =>
    have := e.same p o n q
    rw [h] at this
    cases this
section
variable {P : Program} {w : World} {K : PySem.W.Frag} {mg : PySem.Str → Option Value} {base : Heap}
/-! ### _law_section -/
theorem scSe : FnScope ["_law_draws_here", "_law_kind", "_law_most", "_law_cell_here", "_law_fields", "_law_k", "_law_field"] ["_law_draws_here", "_law_kind", "_law_most", "_law_cell_here"] (defScope (topS 22)) := ⟨rfl, rfl, rfl, by decide +kernel, rfl, by decide +kernel, by decide +kernel⟩
def spSection (K : PySem.W.Frag) : Sp := fun vs H Q _ => ∃ (d : Addr) (k : Nat) (z : Int), vs = [.ref d, .int (k : Int), .int 3, .int z] ∧ Dr H d ∧ k < 4 ∧ ∀ v s H', Ext d H H' → VS K H' v s → OkSec 4 k s → Q v H'
theorem ok_law_section (T : Tx K mg) {f : Addr} {fd : FuncData} (h : Fn1 K mg "_law_section" (topS 22) ["_law_draws_here", "_law_kind", "_law_most", "_law_cell_here"] f fd) : FnOk P w K mg base CX0 4 f fd ["_law_draws_here", "_law_kind", "_law_most", "_law_cell_here"] (spSection K) := by
  obtain ⟨f1, fd1, h1⟩ := T.law_take
  have G1 : FnOk P w K mg base CX0 1 f1 fd1 ["_law_draws_here", "_law_many"] spTake := ok_law_take T h1
  obtain ⟨f2, fd2, h2⟩ := T.law_some_word
  have G2 : FnOk P w K mg base CX0 2 f2 fd2 ["_law_draws_here"] spSomeWord := ok_law_some_word T h2
  obtain ⟨f3, fd3, h3⟩ := T.law_worth
  have G3 : FnOk P w K mg base CX0 3 f3 fd3 ["_law_draws_here", "_law_kind", "_law_cell_here"] (spWorth K) := ok_law_worth T h3
  refine h.F.ok scSe (fun vs H Q E q => ?_) (fun cdv A outer s H vs Q E hr q => ?_)
  · obtain ⟨d, k, z, rfl, _⟩ := q
    rfl
  · obtain ⟨d, k, z, rfl, hd, hk, q⟩ := q
    refine ⟨_, pss_cons (ps_set (i := 4) scSe.nd rfl (.inl rfl) (pe_callB (cr_sortedSS rfl) (by rfl) T.bSorted (by decide +kernel) (pa_cons (pe_callTy (cr_setOfS rfl) (by rfl) T.bSet (by decide +kernel) (pa_cons
        (pe_lc (own := [("_law_k", 5)]) (g := gName 5) (tt := tYes) rfl scSe.nd (pi_range1 (by rfl) T.bRange (pa_cons (pe_call G1 (hr.mono (by decide)) (by rfl) h1.g h1.F.kp h1.b .nil pass0 (pa_cons (pv 0) (pa_cons (pe_op op_add (pv 2) pe_int) pa_nil))) pa_nil))
          (blkOk_by (own := [("_law_k", 5)]) (N := ["_law_draws_here", "_law_kind", "_law_most", "_law_cell_here", "_law_fields", "_law_k", "_law_field"]) (sc := defScope (topS 22)) (by decide +kernel))
          (fun _ _ _ _ _ => pg_name (i := 5) scSe.nd rfl (Or.inl rfl)) (fun _ _ _ _ _ => pts_nil) (fun _ _ _ _ _ => pe_call G2 (hr.mono (by decide)) (by rfl) h2.g h2.F.kp h2.b .nil pass0 (pa_cons (pv 0) pa_nil))) pa_nil)) pa_nil)))
      (pss_one (ps_ret (pe_callTy call_tuple_of (by rfl) T.bTuple (by decide +kernel) (pa_cons
        (pe_lc (own := [("_law_field", 6)]) (g := gName 6) (tt := tYes) rfl scSe.nd (pi_list (pv 4))
          (blkOk_by (own := [("_law_field", 6)]) (N := ["_law_draws_here", "_law_kind", "_law_most", "_law_cell_here", "_law_fields", "_law_k", "_law_field"]) (sc := defScope (topS 22)) (by decide +kernel))
          (fun _ _ _ _ _ => pg_name (i := 6) scSe.nd rfl (Or.inl rfl)) (fun _ _ _ _ _ => pts_nil)
          (fun _ _ _ _ _ => pe_tup (pa_cons (pv 6) (pa_cons (pe_call G3 hr (by rfl) h3.g h3.F.kp h3.b .nil pass0 (pa_cons (pv 0) (pa_cons (pv 1) (pa_cons (pv 3) pa_nil)))) pa_nil)))) pa_nil)))), ?_⟩
    -- the fields
    refine ⟨_, rfl, _, rfl, _, _, rfl, rfl, d, _, rfl, hd, (show (0 : Int) < 3 + 1 by decide), fun u H1 u0 u1 e1 => ?_⟩
    have u3 : u < 4 := u1
    refine ⟨_, rfl, by omega, by omega, fun D nD => ?_⟩
    have nDd : D ≠ d := e1.dr.ne nD
    have nDH : H D = none := e1.none nD nDd
    refine lc_range (lo := 0) (n := u.toNat) (fun i H' => ∃ ws : List PySem.Str, ws.length = i ∧ (∀ x ∈ ws, IsW x) ∧ Ext d H H' ∧ H' D = some (.lst (ws.map V.str)))
      ⟨[], rfl, fun _ h => (nomatch h), e1.new nD, upd_same⟩ ?_ ?_
    · rintro i H' hi ⟨ws, lw, hw, ex, hD⟩
      refine ⟨rfl, yes_turn ?_⟩
      refine ⟨_, rfl, d, rfl, ex.dr, fun x H2 hx e2 => ?_⟩
      have hD2 := e2.same D _ nDd hD
      refine ⟨_, hD2, small1000 (by rw [List.length_map]; omega), ws ++ [x], by rw [List.length_append, lw]; rfl, fun y hy => ?_, (ex.trans e2).mut nDH nDd, ?_⟩
      · rcases List.mem_append.mp hy with q1 | q1
        · exact hw y q1
        · rw [List.mem_singleton.mp q1]; exact hx
      · rw [upd_same, List.map_append]
        rfl
    · rintro H2 ⟨ws, lw, hw, ex, hD⟩
      have lw1 : ws.length ≤ 3 := by omega
      refine ⟨D, ws, rfl, l_of hD, Nat.lt_of_le_of_lt (show ws.length + 1 ≤ 5 by omega) (by decide), fun a na => ?_⟩
      have l1 := length_addsL ws
      refine ⟨a, _, rfl, upd_same, by omega, fun ys p pw pm np => ?_⟩
      have mm : ∀ x, x ∈ ys ↔ x ∈ ws := fun x => by rw [pm.mem_iff, mem_addsL]
      have ly : ys.length ≤ 3 := by rw [pm.length_eq]; omega
      generalize hH3 : upd (upd H2 a (SetSO _ a (addsL ws))) p (.lst (ys.map V.str)) = H3
      have ex3 : Ext d H H3 := by
        rw [← hH3]
        exact (ex.new na).new np
      have hp : H3 p = some (.lst (ys.map V.str)) := by
        rw [← hH3]
        exact upd_same
      have npd : p ≠ d := (ex.new na).dr.ne np
      -- the pairs
      refine ⟨_, rfl, p, rfl, ⟨_, l_of hp⟩, fun D2 nD2 => ?_⟩
      have n2d : D2 ≠ d := ex3.dr.ne nD2
      have n2p : p ≠ D2 := ne_of_none hp nD2
      have n2H : H D2 = none := ex3.none nD2 n2d
      refine lc_list (xs := ys.map V.str) (fun i H' => ∃ (xs : List V) (s : Sec), s.map (·.1) = ys.take i ∧ (∀ c ∈ s, OkV 4 k c.2) ∧ Paired (VP K H') xs s ∧ Ext d H H' ∧ H' p = some (.lst (ys.map V.str)) ∧ H' D2 = some (.lst xs))
        ⟨[], [], rfl, fun _ h => (nomatch h), .nil, ex3.new nD2, by rw [upd_ne n2p]; exact hp, upd_same⟩ ?_ ?_ ?_
      · rintro i H' _ ⟨_, _, _, _, _, _, hp', _⟩
        exact l_of hp'
      · rintro i v H' hv ⟨xs, s, es, ok, pr, ex', hp', hD'⟩
        rw [List.getElem?_map] at hv
        obtain ⟨x, hx, rfl⟩ := Option.map_eq_some_iff.mp hv
        have li : i < ys.length := (List.getElem?_eq_some_iff.mp hx).1
        have ls : s.length = i := by
          have e := congrArg List.length es
          rw [List.length_map, List.length_take] at e
          omega
        refine ⟨rfl, yes_turn ?_⟩
        refine ⟨_, rfl, _, rfl, _, rfl, _, rfl, d, k, z, rfl, ex'.dr, hk, fun v c H4 e4 hv4 ok4 _ => ?_⟩
        refine ⟨sz2, fun t nt => ?_⟩
        have nt2 : D2 ≠ t := ne_of_none (e4.same D2 _ n2d hD') nt
        have ntp : p ≠ t := ne_of_none (e4.same p _ npd hp') nt
        have ex5 : Ext d H (upd H4 t (.tup [.str x, v])) := (ex'.trans e4).new nt
        have k45 : Keep H4 (upd H4 t (.tup [.str x, v])) := keep_new nt
        have hD5 : (upd H4 t (.tup [.str x, v])) D2 = some (.lst xs) := by
          rw [upd_ne nt2]
          exact e4.same D2 _ n2d hD'
        have kA : Keep H' (upd H4 t (.tup [.str x, v])) := (Ext.keep ex'.dr e4).trans k45
        have k56 : Keep (upd H4 t (.tup [.str x, v])) (upd (upd H4 t (.tup [.str x, v])) D2 (.lst (xs ++ [.ref t]))) := keep_lst hD5
        refine ⟨xs, hD5, small1000 (by rw [pr.length, ls]; omega), xs ++ [.ref t], s ++ [(x, c)], ?_, ?_, ?_, ex5.mut n2H n2d, ?_, upd_same⟩
        · rw [List.map_append, es, List.take_add_one, hx]
          rfl
        · intro cc hcc
          rcases List.mem_append.mp hcc with q1 | q1
          · exact ok cc q1
          · rw [List.mem_singleton.mp q1]; exact ok4
        · refine Paired.snoc (L2.Paired.mapP pr fun _ _ q => q.keep (kA.trans k56)) ?_
          exact ⟨t, v, rfl, keep_t k56 (t_of upd_same), hv4.keep (k45.trans k56)⟩
        · rw [upd_ne n2p, upd_ne ntp]
          exact e4.same p _ npd hp'
      · rintro H4 ⟨xs, s, es, ok, pr, ex', hp', hD'⟩
        rw [List.length_map, List.take_length] at es
        refine ⟨D2, _, rfl, .inl ⟨l_of hD', fun l nl => ?_⟩⟩
        refine q (.ref l) s _ (ex'.new nl) ⟨l, xs, rfl, t_of upd_same, L2.Paired.mapP pr fun _ _ q => q.keep (keep_new nl)⟩ ⟨by rw [es]; exact pw, fun c hc => ?_, ok, ?_⟩
        · have : c.1 ∈ ys := by
            rw [← es]
            exact List.mem_map.mpr ⟨c, hc, rfl⟩
          exact hw _ ((mm _).mp this)
        · have e := congrArg List.length es
          rw [List.length_map] at e
          omega
end
end K9W
namespace K9W
open PySem PySem.Spec PyProof.Rows L2 K9 K9S
/-! ### parts of lists -/
theorem cut_lo (xs : List V) (j : Nat) : cutV xs none (some (j : Int)) = xs.take j := by
  unfold cutV
  rw [HT.sIx_none, HT.sIx_nat, List.drop_zero, Nat.sub_zero]
  rcases Nat.le_total j xs.length with c | c
  · rw [Nat.min_eq_left c]
  · rw [Nat.min_eq_right c, List.take_length, List.take_of_length_le c]
theorem cut_hi (xs : List V) (j : Nat) : cutV xs (some (j : Int)) none = xs.drop j := by
  unfold cutV
  rw [HT.sIx_none, HT.sIx_nat]
  rcases Nat.le_total j xs.length with c | c
  · rw [Nat.min_eq_left c]
    exact List.take_of_length_le (by rw [List.length_drop]; exact Nat.le_refl _)
  · rw [Nat.min_eq_right c, List.drop_length, List.drop_of_length_le c, List.take_nil]
theorem paired_take {α β : Type} {F : α → β → Prop} : ∀ {l : List α} {k : List β} (n : Nat), Paired F l k → Paired F (l.take n) (k.take n)
  | _, _, 0, _ => by rw [List.take_zero, List.take_zero]; exact .nil
  | _, _, n + 1, .nil => .nil
  | _, _, n + 1, .cons r t => .cons r (paired_take n t)
theorem paired_drop {α β : Type} {F : α → β → Prop} : ∀ {l : List α} {k : List β} (n : Nat), Paired F l k → Paired F (l.drop n) (k.drop n)
  | _, _, 0, h => h
  | _, _, n + 1, .nil => .nil
  | _, _, n + 1, .cons _ t => paired_drop n t
theorem paired_set {α β : Type} {F : α → β → Prop} {a : α} {b : β} (r : F a b) : ∀ {l : List α} {k : List β} (n : Nat), Paired F l k → Paired F (l.set n a) (k.set n b)
  | _, _, n, .nil => .nil
  | _, _, 0, .cons _ t => .cons r t
  | _, _, n + 1, .cons q t => .cons q (paired_set r n t)
theorem split_at {α : Type} {l : List α} {j : Nat} {a : α} (h : l[j]? = some a) : l = l.take j ++ a :: l.drop (j + 1) := by
  obtain ⟨h1, h2⟩ := List.getElem?_eq_some_iff.mp h
  rw [← h2, List.getElem_cons_drop, List.take_append_drop]
theorem set_split {α : Type} {l : List α} {j : Nat} {a b : α} (h : l[j]? = some a) : l.set j b = l.take j ++ b :: l.drop (j + 1) := by
  obtain ⟨h1, _⟩ := List.getElem?_eq_some_iff.mp h
  rw [List.set_eq_take_append_cons_drop, if_pos h1]
section
variable {P : Program} {w : World} {K : PySem.W.Frag} {mg : PySem.Str → Option Value} {base : Heap}
/-! ### _law_varied -/
theorem scVa : FnScope ["_law_draws_here", "_law_one", "_law_kind", "_law_cell_here", "_law_pairs", "_law_shape", "_law_at", "_law_worth_here"] ["_law_draws_here", "_law_one", "_law_kind", "_law_cell_here"] (defScope (topS 23)) := ⟨rfl, rfl, rfl, by decide +kernel, rfl, by decide +kernel, by decide +kernel⟩
def spVaried (K : PySem.W.Frag) : Sp := fun vs H Q _ => ∃ (d : Addr) (ov : V) (x : Req) (N k : Nat) (z : Int), vs = [.ref d, ov, .int (k : Int), .int z] ∧ Dr H d ∧ VR K H ov x ∧ OkReq N x ∧ (4 ≤ N ∧ N ≤ 40) ∧ k < 4 ∧
  ∀ v s H', Ext d H H' → VS K H' v s → OkSec (N + 1) k s → Q v H'
theorem ok_law_varied (T : Tx K mg) {f : Addr} {fd : FuncData} (h : Fn1 K mg "_law_varied" (topS 23) ["_law_draws_here", "_law_one", "_law_kind", "_law_cell_here"] f fd) : FnOk P w K mg base CX0 5 f fd ["_law_draws_here", "_law_one", "_law_kind", "_law_cell_here"] (spVaried K) := by
  obtain ⟨f1, fd1, h1⟩ := T.law_take
  have G1 : FnOk P w K mg base CX0 1 f1 fd1 ["_law_draws_here", "_law_many"] spTake := ok_law_take T h1
  obtain ⟨f2, fd2, h2⟩ := T.law_some_word
  have G2 : FnOk P w K mg base CX0 2 f2 fd2 ["_law_draws_here"] spSomeWord := ok_law_some_word T h2
  obtain ⟨f3, fd3, h3⟩ := T.law_worth
  have G3 : FnOk P w K mg base CX0 3 f3 fd3 ["_law_draws_here", "_law_kind", "_law_cell_here"] (spWorth K) := ok_law_worth T h3
  obtain ⟨f4, fd4, h4⟩ := T.law_section
  have G4 : FnOk P w K mg base CX0 4 f4 fd4 ["_law_draws_here", "_law_kind", "_law_most", "_law_cell_here"] (spSection K) := ok_law_section T h4
  refine h.F.ok scVa (fun vs H Q E q => ?_) (fun cdv A outer s H vs Q E hr q => ?_)
  · obtain ⟨d, ov, x, N, k, z, rfl, _⟩ := q
    rfl
  · obtain ⟨d, _, x, N, k, z, rfl, hd, ⟨a, os, rfl, ha, po⟩, ox, ⟨N4, N40⟩, hk, q⟩ := q
    refine ⟨_, pss_cons (ps_set (i := 4) scVa.nd rfl (.inl rfl) (pe_callTy call_list_of (by rfl) T.bList (by decide +kernel) (pa_cons (pe_ix ix_tup (pv 1) (pv 2) (fun _ _ => rfl)) pa_nil)))
      (pss_cons (ps_set (i := 5) scVa.nd rfl (.inl rfl) (pe_call G1 (hr.mono (by decide)) (by rfl) h1.g h1.F.kp h1.b .nil pass0 (pa_cons (pv 0) (pa_cons pe_int pa_nil))))
      (pss_cons (ps_if (pw_or (pt_cmpR op_eq (pv 5) pe_int (nomark _)) (pw_or1 (pt_cmpR op_eq (pe_callB call_len_seq (by rfl) T.bLen (by decide +kernel) (pa_cons (pv 4) pa_nil)) pe_int (nomark _)))).pt
          (pss_one (ps_ret (pe_call G4 hr (by rfl) h4.g h4.F.kp h4.b .nil pass0 (pa_cons (pv 0) (pa_cons (pv 2) (pa_cons pe_int (pa_cons (pv 3) pa_nil))))))) pss_nil)
      (pss_cons (ps_set (i := 6) scVa.nd rfl (.inl rfl) (pe_call G1 (hr.mono (by decide)) (by rfl) h1.g h1.F.kp h1.b .nil pass0 (pa_cons (pv 0) (pa_cons (pe_callB call_len_seq (by rfl) T.bLen (by decide +kernel) (pa_cons (pv 4) pa_nil)) pa_nil))))
      (pss_cons (ps_if (pt_cmpR op_eq (pv 5) pe_int (nomark _)) (pss_one (ps_ret (pe_callTy call_tuple_of (by rfl) T.bTuple (by decide +kernel) (pa_cons
          (pe_op op_cat (pe_slice sl_list (pv 4) po_none (po_some (pv 6))) (pe_slice sl_list (pv 4) (po_some (pe_op op_add (pv 6) pe_int)) po_none)) pa_nil)))) pss_nil)
      (pss_cons (ps_set (i := 7) scVa.nd rfl (.inl rfl) (pe_call G3 (hr.mono (by decide)) (by rfl) h3.g h3.F.kp h3.b .nil pass0 (pa_cons (pv 0) (pa_cons (pv 2) (pa_cons (pv 3) pa_nil)))))
      (Evl.pss_cut (ps_if (pw_and (pt_cmpR op_eq (pv 2) pe_int (nomark _)) (pw_and1 (pt_cmpR op_eq (pv 5) pe_int (nomark _)))).pt
          (pss_one (ps_set (i := 7) scVa.nd rfl (.inl rfl) (pe_un un_neg (pe_ix ix_tup (pe_ix ix_list (pv 4) (pv 6) (fun _ _ => rfl)) pe_int (fun _ _ => rfl))))) pss_nil)
      (Evl.pss_cut (ps_if (pw_and (pt_cmpR op_eq (pv 2) pe_int (nomark _)) (pw_and1 (pt_cmpR op_eq (pv 5) pe_int (nomark _)))).pt
          (pss_one (ps_set (i := 7) scVa.nd rfl (.inl rfl) (pe_op op_catA (pe_slice sl_tupA (pe_ix ix_tup (pe_ix ix_list (pv 4) (pv 6) (fun _ _ => rfl)) pe_int (fun _ _ => rfl)) po_none (po_some pe_int)) (pv 7)))) pss_nil)
      (Evl.pss_cut (ps_if (pw_and (pt_cmpR op_eq (pv 2) pe_int (nomark _)) (pw_and1 (pt_cmpR op_eq (pv 5) pe_int (nomark _)))).pt
          (pss_one (ps_set (i := 7) scVa.nd rfl (.inl rfl) (pe_callTy call_tuple_of (by rfl) T.bTuple (by decide +kernel) (pa_cons (pe_callB (cr_sortedSS rfl) (by rfl) T.bSorted (by decide +kernel) (pa_cons
            (pe_callTy (cr_setOfS rfl) (by rfl) T.bSet (by decide +kernel) (pa_cons (pe_op op_cat (pe_callTy call_list_of (by rfl) T.bList (by decide +kernel) (pa_cons (pe_ix ix_tup (pe_ix ix_list (pv 4) (pv 6) (fun _ _ => rfl)) pe_int (fun _ _ => rfl)) pa_nil))
              (pe_lst (pa_cons (pe_call G2 (hr.mono (by decide)) (by rfl) h2.g h2.F.kp h2.b .nil pass0 (pa_cons (pv 0) pa_nil)) pa_nil))) pa_nil)) pa_nil)) pa_nil)))) pss_nil)
      (pss_cons (ps_asg (pe_tup (pa_cons (pe_ix ix_tup (pe_ix ix_list (pv 4) (pv 6) (fun _ _ => rfl)) pe_int (fun _ _ => rfl)) (pa_cons (pv 7) pa_nil))) (pg_sub (pv 4) (pv 6) set_list))
      (pss_one (ps_ret (pe_callTy call_tuple_of (by rfl) T.bTuple (by decide +kernel) (pa_cons (pv 4) pa_nil))))))))))))), ?_⟩
    -- pairs
    obtain ⟨sx, hsx⟩ : ∃ sx, x[k]? = some sx := ⟨x[k]'(by rw [ox.1]; exact hk), List.getElem?_eq_getElem _⟩
    have okx := ox.2 k _ hsx
    obtain ⟨vx, hvx, t0, xs, rfl, ht0, pr⟩ := paired_get po hsx
    have lxs : xs.length = sx.length := pr.length
    have lx3 : xs.length ≤ 3 := by rw [lxs]; exact okx.len
    refine ⟨_, rfl, _, rfl, a, _, _, _, rfl, rfl, ha, atI_nat hvx, t0, xs, rfl, .inr ht0, fun p np => ?_⟩
    have npd : p ≠ d := hd.ne np
    have e1 := (Ext.refl hd).new (o := .lst xs) np
    have hp1 : (upd H p (.lst xs)) p = some (.lst xs) := upd_same
    generalize upd H p (.lst xs) = H1 at e1 hp1
    -- shape
    refine ⟨_, rfl, d, _, rfl, e1.dr, (show (0 : Int) < 4 by decide), fun sh H2 s0 s1 e12 => ?_⟩
    have e2 := e1.trans e12
    have hp2 := e12.same p _ npd hp1
    have goSec : ∀ (H2 : Hp), Ext d H H2 → (fun (vs : List V) H1 => (spSection K) (vs ++ []) H1 Q E0) [.ref d, .int (k : Int), .int 3, .int z] H2 := fun H2 e2 =>
      ⟨d, k, z, rfl, e2.dr, hk, fun v s H' e hv os => q v s H' (e2.trans e) hv (os.mono (by omega))⟩
    refine ⟨_, rfl, rfl, _, rfl, ite2 (fun c => ?_) (fun c => ?_)⟩
    · exact iteT ⟨_, rfl, _, rfl, _, rfl, goSec H2 e2⟩
    refine ⟨_, rfl, p, _, rfl, .inl (l_of hp2), rfl, _, rfl, ite2 (fun c2 => ?_) (fun c2 => ?_)⟩
    · exact ⟨_, rfl, _, rfl, _, rfl, goSec H2 e2⟩
    have hpos : 0 < xs.length := by
      rcases Nat.eq_zero_or_pos xs.length with e | e
      · exact absurd (decide_eq_true (by rw [e]; rfl)) c2
      · exact e
    -- at
    refine ⟨_, rfl, _, rfl, p, _, rfl, .inl (l_of hp2), d, _, rfl, e2.dr, by omega, fun at' H3 a0 a1 e23 => ?_⟩
    obtain ⟨j, rfl, hj⟩ : ∃ j : Nat, at' = (j : Int) ∧ j < xs.length := ⟨at'.toNat, by omega, by omega⟩
    have e3 := e2.trans e23
    have hp3 := e23.same p _ npd hp2
    obtain ⟨⟨g, c0⟩, hs0⟩ : ∃ pc, sx[j]? = some pc := ⟨sx[j]'(by rw [← lxs]; exact hj), List.getElem?_eq_getElem _⟩
    obtain ⟨v0, hv0, t1, x0, rfl, ht1, hx0⟩ := paired_get pr hs0
    have okc0 : OkV N k c0 := okx.val (g, c0) (List.mem_of_getElem? hs0)
    refine ⟨_, rfl, rfl, _, rfl, ite2 (fun c3 => ?_) (fun c3 => ?_)⟩
    · -- one left out
      refine ⟨_, rfl, _, rfl, _, rfl, p, xs, rfl, l_of hp3, fun l1 n1 => ?_⟩
      have e4 := e3.new (o := .lst (cutV xs none (some (j : Int)))) n1
      have np1 : p ≠ l1 := ne_of_none hp3 n1
      refine ⟨_, rfl, _, rfl, _, _, rfl, rfl, _, rfl, p, xs, rfl, l_of (by rw [upd_ne np1]; exact hp3), fun l2 n2 => ?_⟩
      have n12 : l1 ≠ l2 := ne_of_none upd_same n2
      refine ⟨l1, l2, _, _, rfl, rfl, by rw [upd_ne n12]; exact upd_same, upd_same, szl ?_, fun l3 n3 => ?_⟩
      · have a1 := cutV_length xs none (some (j : Int))
        have a2 := cutV_length xs (some ((j : Int) + 1)) none
        omega
      refine ⟨l3, _, rfl, .inl ⟨l_of upd_same, fun l4 n4 => ?_⟩⟩
      have e7 : Ext d H (upd (upd (upd (upd H3 l1 (.lst (cutV xs none (some (j : Int))))) l2 (.lst (cutV xs (some ((j : Int) + 1)) none))) l3 (.lst (cutV xs none (some (j : Int)) ++ cutV xs (some ((j : Int) + 1)) none))) l4 (.tup (cutV xs none (some (j : Int)) ++ cutV xs (some ((j : Int) + 1)) none))) := ((e4.new n2).new n3).new n4
      have e8 := cut_lo xs j
      have e9 : cutV xs (some ((j : Int) + 1)) none = xs.drop (j + 1) := cut_hi xs (j + 1)
      have pr2 : Paired (VP K H) (cutV xs none (some (j : Int)) ++ cutV xs (some ((j : Int) + 1)) none) (sx.take j ++ sx.drop (j + 1)) := by
        rw [e8, e9]
        exact paired_app (paired_take j pr) (paired_drop (j + 1) pr)
      refine q (.ref l4) (sx.take j ++ sx.drop (j + 1)) _ e7 ⟨l4, _, rfl, t_of upd_same, L2.Paired.mapP pr2 fun _ _ q => q.keep (Ext.keep hd e7)⟩ ?_
      · have o2 := okx
        rw [split_at hs0] at o2
        exact (okSec_cut o2).mono (Nat.le_succ _)
    -- a new value
    refine ⟨_, rfl, _, rfl, _, rfl, d, k, z, rfl, e3.dr, hk, fun v c H4 e34 hv okc p4 => ?_⟩
    have e4 := e3.trans e34
    have hp4 := e34.same p _ npd hp3
    have gat : atI xs (j : Int) = some (.ref t1) := atI_nat hv0
    have rd1 : ∀ {H' : Hp}, Ext d H H' → SqT K H' t1 [.str g, x0] := fun e => keep_t (Ext.keep hd e) ht1
    refine ⟨fun σ H' => ∃ v c, σ = [some (.ref d), some (.ref a), some (.int (k : Int)), some (.int z), some (.ref p), some (.int sh), some (.int (j : Int)), some v] ∧ Ext d H H' ∧ H' p = some (.lst xs) ∧ VC K H' v c ∧ OkV 4 k c ∧ P4 c, ?_, ?_⟩
    · refine ⟨_, rfl, rfl, _, rfl, ite2 (fun c5 => ?_) (fun c5 => ?_)⟩
      · have ek : (k : Int) = 3 := V.int.inj (of_decide_eq_true c5)
        obtain rfl : k = 3 := by omega
        refine ⟨_, rfl, rfl, _, rfl, ite2 (fun c6 => ?_) (fun c6 => ?_)⟩
        · obtain ⟨n, rfl, hn⟩ : ∃ n, c0 = .num n ∧ n ≠ 0 := by
            match c0, okc0 with
            | .num n, o => exact ⟨n, rfl, o⟩
          cases (show x0 = .int n from hx0)
          refine ⟨_, rfl, _, rfl, p, xs, _, _, rfl, rfl, l_of hp4, gat, t1, _, _, _, rfl, rfl, rd1 e4, atI_nat (j := 1) rfl, n, rfl, ?_⟩
          exact ⟨.int (-n), .num (-n), rfl, e4, hp4, rfl, (show -n ≠ 0 by omega), trivial⟩
        · exact ⟨v, c, rfl, e4, hp4, hv, okc, p4⟩
      · exact iteF ⟨v, c, rfl, e4, hp4, hv, okc, p4⟩
    rintro σ H4 ⟨v, c, rfl, e4, hp4, hv, okc, p4⟩
    refine ⟨fun σ H' => ∃ v c, σ = [some (.ref d), some (.ref a), some (.int (k : Int)), some (.int z), some (.ref p), some (.int sh), some (.int (j : Int)), some v] ∧ Ext d H H' ∧ H' p = some (.lst xs) ∧ VC K H' v c ∧ OkV 4 k c, ?_, ?_⟩
    · refine ⟨_, rfl, rfl, _, rfl, ite2 (fun c5 => ?_) (fun c5 => ?_)⟩
      · have ek : (k : Int) = 1 := V.int.inj (of_decide_eq_true c5)
        obtain rfl : k = 1 := by omega
        refine ⟨_, rfl, rfl, _, rfl, ite2 (fun c6 => ?_) (fun c6 => ?_)⟩
        · obtain ⟨ps, rfl, hps⟩ : ∃ ps, c0 = .path ps ∧ OkV N 1 (.path ps) := by
            match c0, okc0 with
            | .path ps, o => exact ⟨ps, rfl, o⟩
          obtain ⟨ps2, rfl, hps2⟩ : ∃ ps2, c = .path ps2 ∧ OkV 4 1 (.path ps2) := by
            match c, okc with
            | .path ps, o => exact ⟨ps, rfl, o⟩
          obtain ⟨b0, rfl, hb0⟩ := (show VT K H x0 ps from hx0)
          obtain ⟨b2, rfl, hb2⟩ := (show VT K H4 v ps2 from hv)
          refine ⟨_, rfl, _, rfl, p, xs, _, _, rfl, rfl, l_of hp4, gat, t1, _, _, _, rfl, rfl, rd1 e4, atI_nat (j := 1) rfl, 1, rfl, cut_any (keep_t (Ext.keep hd e4) hb0) fun c1 H5 s5 hc1 => ?_⟩
          have ec : cutV (ps.map V.str) none (some 1) = (ps.take 1).map V.str := by
            rw [List.map_take]
            exact cut_lo (ps.map V.str) 1
          rw [ec] at hc1
          have lt1 : (ps.take 1).length ≤ 1 := List.length_take_le _ _
          have l4 : ps2.length ≤ 4 := p4
          refine ⟨_, rfl, cat_any hc1 (keep_t (keep_same s5) hb2) (szl (by rw [List.length_map, List.length_map]; omega)) fun c2 H6 s6 hc2 => ?_⟩
          rw [← List.map_append] at hc2
          refine ⟨.ref c2, .path (ps.take 1 ++ ps2), rfl, e4.trans (.of_same e4.dr (s5.trans s6)), s6 _ _ (s5 _ _ hp4), ⟨c2, rfl, hc2⟩, ?_⟩
          refine ⟨fun e => hps2.1 (List.append_eq_nil_iff.mp e).2, by rw [List.length_append]; omega, fun y hy => ?_⟩
          rcases List.mem_append.mp hy with z1 | z1
          · exact hps.2.2 y (List.mem_of_mem_take z1)
          · exact hps2.2.2 y z1
        · exact ⟨v, c, rfl, e4, hp4, hv, okc⟩
      · exact iteF ⟨v, c, rfl, e4, hp4, hv, okc⟩
    rintro σ H4 ⟨v, c, rfl, e4, hp4, hv, okc⟩
    refine ⟨fun σ H' => ∃ v c, σ = [some (.ref d), some (.ref a), some (.int (k : Int)), some (.int z), some (.ref p), some (.int sh), some (.int (j : Int)), some v] ∧ Ext d H H' ∧ H' p = some (.lst xs) ∧ VC K H' v c ∧ OkV (N + 1) k c, ?_, ?_⟩
    · have stay : ∃ v' c', [some (.ref d), some (.ref a), some (.int (k : Int)), some (.int z), some (.ref p), some (.int sh), some (.int (j : Int)), some v] = [some (.ref d), some (.ref a), some (.int (k : Int)), some (.int z), some (.ref p), some (.int sh), some (.int (j : Int)), some v'] ∧ Ext d H H4 ∧ H4 p = some (.lst xs) ∧ VC K H4 v' c' ∧ OkV (N + 1) k c' :=
        ⟨v, c, rfl, e4, hp4, hv, okV_mono (by omega) okc⟩
      refine ⟨_, rfl, rfl, _, rfl, ite2 (fun c5 => ?_) (fun c5 => ?_)⟩
      · have ek : (k : Int) = 2 := V.int.inj (of_decide_eq_true c5)
        obtain rfl : k = 2 := by omega
        refine ⟨_, rfl, rfl, _, rfl, ite2 (fun c6 => ?_) (fun c6 => ?_)⟩
        · obtain ⟨ws, rfl, hws⟩ : ∃ ws, c0 = .set ws ∧ OkV N 2 (.set ws) := by
            match c0, okc0 with
            | .set ws, o => exact ⟨ws, rfl, o⟩
          obtain ⟨b0, rfl, hb0⟩ := (show VT K H x0 ws from hx0)
          have lw : ws.length ≤ N := hws.2.1
          refine ⟨_, rfl, _, rfl, p, xs, _, _, rfl, rfl, l_of hp4, gat, t1, _, _, _, rfl, rfl, rd1 e4, atI_nat (j := 1) rfl, b0, _, rfl, .inr (keep_t (Ext.keep hd e4) hb0), fun l1 n1 => ?_⟩
          have n1d : l1 ≠ d := e4.dr.ne n1
          have n1p : p ≠ l1 := ne_of_none hp4 n1
          have e5 := e4.new (o := .lst (ws.map V.str)) n1
          have hp5 : (upd H4 l1 (.lst (ws.map V.str))) p = some (.lst xs) := by rw [upd_ne n1p]; exact hp4
          refine ⟨_, rfl, d, rfl, e5.dr, fun y H6 hy e56 => ?_⟩
          have e6 := e5.trans e56
          have hl1 := e56.same l1 _ n1d upd_same
          have hp6 := e56.same p _ npd hp5
          refine ⟨sz1, fun l2 n2 => ?_⟩
          have n12 : l1 ≠ l2 := ne_of_none hl1 n2
          have np2 : p ≠ l2 := ne_of_none hp6 n2
          refine ⟨l1, l2, _, _, rfl, rfl, by rw [upd_ne n12]; exact hl1, upd_same, szl (by rw [List.length_map]; show ws.length + 1 ≤ 1000; omega), fun l3 n3 => ?_⟩
          have e7 := (e6.new n2).new (o := .lst (ws.map V.str ++ [.str y])) n3
          have np3 : p ≠ l3 := ne_of_none (by rw [upd_ne np2]; exact hp6) n3
          refine ⟨l3, ws ++ [y], rfl, l_of (by rw [upd_same, List.map_append]; rfl), Nat.lt_of_le_of_lt (show (ws ++ [y]).length + 1 ≤ 100 by rw [List.length_append, List.length_singleton]; omega) (by decide), fun l4 n4 => ?_⟩
          have l41 := length_addsL (ws ++ [y])
          rw [List.length_append, List.length_singleton] at l41
          have np4 : p ≠ l4 := ne_of_none (by rw [upd_ne np3, upd_ne np2]; exact hp6) n4
          refine ⟨l4, _, rfl, upd_same, by omega, fun us l5 pw pm n5 => ?_⟩
          have np5 : p ≠ l5 := ne_of_none (by rw [upd_ne np4, upd_ne np3, upd_ne np2]; exact hp6) n5
          refine ⟨l5, _, rfl, .inl ⟨l_of upd_same, fun l6 n6 => ?_⟩⟩
          have np6 : p ≠ l6 := ne_of_none (by rw [upd_ne np5, upd_ne np4, upd_ne np3, upd_ne np2]; exact hp6) n6
          have mm : ∀ u, u ∈ us ↔ u ∈ ws ∨ u = y := fun u => by rw [pm.mem_iff, mem_addsL, List.mem_append, List.mem_singleton]
          refine ⟨.ref l6, .set us, rfl, ((e7.new n4).new n5).new n6, by rw [upd_ne np6, upd_ne np5, upd_ne np4, upd_ne np3, upd_ne np2]; exact hp6, ⟨l6, rfl, t_of upd_same⟩, ?_⟩
          refine ⟨fun e => ?_, by rw [pm.length_eq]; omega, pw, fun u hu => ?_⟩
          · have := (mm y).mpr (.inr rfl)
            rw [e] at this
            exact nomatch this
          · rcases (mm u).mp hu with z1 | z1
            · exact hws.2.2.2 u z1
            · rw [z1]; exact hy
        · exact stay
      · exact iteF stay
    rintro σ H4 ⟨v, c, rfl, e4, hp4, hv, okc⟩
    -- pairs[at] = (pairs[at][0], worth)
    refine ⟨_, rfl, _, rfl, p, xs, _, _, rfl, rfl, l_of hp4, gat, t1, _, _, _, rfl, rfl, rd1 e4, atI_nat (j := 0) rfl, _, rfl, sz2, fun t2 n2 => ?_⟩
    have np2 : p ≠ t2 := ne_of_none hp4 n2
    have e5 := e4.new (o := .tup [.str g, v]) n2
    have hp5 : (upd H4 t2 (.tup [.str g, v])) p = some (.lst xs) := by rw [upd_ne np2]; exact hp4
    refine ⟨_, rfl, _, rfl, p, xs, _, j, rfl, rfl, hp5, Evl.ixN_nat hj, ?_⟩
    have k56 : Keep (upd H4 t2 (.tup [.str g, v])) (upd (upd H4 t2 (.tup [.str g, v])) p (.lst (xs.set j (.ref t2)))) := keep_lst hp5
    have e6 : Ext d H (upd (upd H4 t2 (.tup [.str g, v])) p (.lst (xs.set j (.ref t2)))) := e5.mut np npd
    refine ⟨_, rfl, p, _, rfl, .inl ⟨l_of upd_same, fun l nl => ?_⟩⟩
    have k67 : Keep (upd (upd H4 t2 (.tup [.str g, v])) p (.lst (xs.set j (.ref t2)))) (upd (upd (upd H4 t2 (.tup [.str g, v])) p (.lst (xs.set j (.ref t2)))) l (.tup (xs.set j (.ref t2)))) := keep_new nl
    have e7 := e6.new (o := .tup (xs.set j (.ref t2))) nl
    refine q (.ref l) (sx.set j (g, c)) _ e7 ⟨l, _, rfl, t_of upd_same, ?_⟩ ?_
    · refine paired_set ?_ j (L2.Paired.mapP pr fun _ _ q => q.keep (Ext.keep hd e7))
      exact ⟨t2, v, rfl, keep_t (k56.trans k67) (t_of upd_same), hv.keep ((keep_new n2).trans (k56.trans k67))⟩
    · have o2 := okx.mono (Nat.le_succ N)
      rw [split_at hs0] at o2
      rw [set_split hs0]
      exact okSec_put o2 okc
end
end K9W
namespace K9W
open PySem PySem.Spec PyProof.Rows L2 K9 K9S
section
variable {P : Program} {w : World} {K : PySem.W.Frag} {mg : PySem.Str → Option Value} {base : Heap}
/-! ### requests out of sections -/
/-- the sections made so far -/
theorem okReq_snoc {N : Nat} {r : Req} {s : Sec} (h : ∀ k t, r[k]? = some t → OkSec N k t) (hs : OkSec N r.length s) : ∀ k t, (r ++ [s])[k]? = some t → OkSec N k t := by
  intro k t e
  rcases Nat.lt_trichotomy k r.length with c | c | c
  · rw [List.getElem?_append_left c] at e
    exact h k t e
  · subst c
    rw [List.getElem?_append_right (Nat.le_refl _), Nat.sub_self] at e
    rw [← Option.some.inj (show some s = some t from e)]
    exact hs
  · rw [List.getElem?_eq_none (by rw [List.length_append, List.length_singleton]; omega)] at e
    cases e
/-! ### _law_other -/
theorem scOt : FnScope ["_law_draws_here", "_law_one", "_law_cell_here", "_law_shape", "_law_kind", "_law_found"] ["_law_draws_here", "_law_one", "_law_cell_here"] (defScope (topS 24)) := ⟨rfl, rfl, rfl, by decide +kernel, rfl, by decide +kernel, by decide +kernel⟩
def spOther (K : PySem.W.Frag) : Sp := fun vs H Q _ => ∃ (d : Addr) (ov : V) (x : Req) (N : Nat) (z : Int), vs = [.ref d, ov, .int z] ∧ Dr H d ∧ VR K H ov x ∧ OkReq N x ∧ (4 ≤ N ∧ N ≤ 40) ∧
  ∀ v y H', Ext d H H' → VR K H' v y → OkReq (N + 1) y → Q v H'
theorem ok_law_other (T : Tx K mg) {f : Addr} {fd : FuncData} (h : Fn1 K mg "_law_other" (topS 24) ["_law_draws_here", "_law_one", "_law_cell_here"] f fd) : FnOk P w K mg base CX0 6 f fd ["_law_draws_here", "_law_one", "_law_cell_here"] (spOther K) := by
  obtain ⟨f1, fd1, h1⟩ := T.law_take
  have G1 : FnOk P w K mg base CX0 1 f1 fd1 ["_law_draws_here", "_law_many"] spTake := ok_law_take T h1
  obtain ⟨f4, fd4, h4⟩ := T.law_section
  have G4 : FnOk P w K mg base CX0 4 f4 fd4 ["_law_draws_here", "_law_kind", "_law_most", "_law_cell_here"] (spSection K) := ok_law_section T h4
  obtain ⟨f5, fd5, h5⟩ := T.law_varied
  have G5 : FnOk P w K mg base CX0 5 f5 fd5 ["_law_draws_here", "_law_one", "_law_kind", "_law_cell_here"] (spVaried K) := ok_law_varied T h5
  refine h.F.ok scOt (fun vs H Q E q => ?_) (fun cdv A outer s H vs Q E hr q => ?_)
  · obtain ⟨d, ov, x, N, z, rfl, _⟩ := q
    rfl
  · obtain ⟨d, _, x, N, z, rfl, hd, ⟨a, os, rfl, ha, po⟩, ox, ⟨N4, N40⟩, q⟩ := q
    refine ⟨_, pss_cons (ps_set (i := 3) scOt.nd rfl (.inl rfl) (pe_call G1 (hr.mono (by decide)) (by rfl) h1.g h1.F.kp h1.b .nil pass0 (pa_cons (pv 0) (pa_cons pe_int pa_nil))))
      (pss_cons (ps_if (pt_cmpR op_eq (pv 3) pe_int (nomark _)) (pss_one (ps_ret (pv 1))) pss_nil)
      (pss_cons (ps_if (pt_cmpR op_eq (pv 3) pe_int (nomark _)) (pss_one (ps_ret (pe_callTy call_tuple_of (by rfl) T.bTuple (by decide +kernel) (pa_cons
          (pe_lc (own := [("_law_kind", 4)]) (g := gName 4) (tt := tYes) rfl scOt.nd (pi_range1 (by rfl) T.bRange (pa_cons pe_int pa_nil))
            (blkOk_by (own := [("_law_kind", 4)]) (N := ["_law_draws_here", "_law_one", "_law_cell_here", "_law_shape", "_law_kind", "_law_found"]) (sc := defScope (topS 24)) (by decide +kernel))
            (fun _ _ _ _ _ => pg_name (i := 4) scOt.nd rfl (Or.inl rfl)) (fun _ _ _ _ _ => pts_nil)
            (fun _ _ _ _ _ => pe_call G4 (hr.mono (by decide)) (by rfl) h4.g h4.F.kp h4.b .nil pass0 (pa_cons (pv 0) (pa_cons (pv 4) (pa_cons pe_int (pa_cons (pv 2) pa_nil)))))) pa_nil)))) pss_nil)
      (pss_cons (ps_set (i := 5) scOt.nd rfl (.inl rfl) (pe_callTy call_list_of (by rfl) T.bList (by decide +kernel) (pa_cons (pv 1) pa_nil)))
      (pss_cons (ps_set (i := 4) scOt.nd rfl (.inl rfl) (pe_call G1 (hr.mono (by decide)) (by rfl) h1.g h1.F.kp h1.b .nil pass0 (pa_cons (pv 0) (pa_cons pe_int pa_nil))))
      (pss_cons (ps_asg (pe_call G5 hr (by rfl) h5.g h5.F.kp h5.b .nil pass0 (pa_cons (pv 0) (pa_cons (pv 1) (pa_cons (pv 4) (pa_cons (pv 2) pa_nil))))) (pg_sub (pv 5) (pv 4) set_list))
      (Evl.pss_cut (ps_if (pt_cmpR op_gt (pv 3) pe_int (nomark _))
          (pss_cons (ps_set (i := 4) scOt.nd rfl (.inl rfl) (pe_op op_add (pv 4) (pe_call G1 (hr.mono (by decide)) (by rfl) h1.g h1.F.kp h1.b .nil pass0 (pa_cons (pv 0) (pa_cons (pe_op op_sub pe_int (pv 4)) pa_nil)))))
          (pss_one (ps_asg (pe_call G5 hr (by rfl) h5.g h5.F.kp h5.b .nil pass0 (pa_cons (pv 0) (pa_cons (pv 1) (pa_cons (pv 4) (pa_cons (pv 2) pa_nil))))) (pg_sub (pv 5) (pv 4) set_list)))) pss_nil)
      (pss_one (ps_ret (pe_callTy call_tuple_of (by rfl) T.bTuple (by decide +kernel) (pa_cons (pv 5) pa_nil)))))))))), ?_⟩
    refine ⟨_, rfl, d, _, rfl, hd, (show (0 : Int) < 6 by decide), fun sh H1 s0 s1 e1 => ?_⟩
    refine ⟨_, rfl, rfl, _, rfl, ite2 (fun c => ?_) (fun c => ?_)⟩
    · exact ⟨_, rfl, q (.ref a) x H1 e1 (VR.keep (Ext.keep hd e1) ⟨a, os, rfl, ha, po⟩) (ox.mono (Nat.le_succ _))⟩
    refine ⟨_, rfl, rfl, _, rfl, ite2 (fun c2 => ?_) (fun c2 => ?_)⟩
    · -- all anew
      refine ⟨4, rfl, by decide, by decide, fun D nD => ?_⟩
      have nDd : D ≠ d := e1.dr.ne nD
      have nDH : H D = none := e1.none nD nDd
      refine lc_range (lo := 0) (n := 4) (fun i H' => ∃ (xs : List V) (r : Req), r.length = i ∧ (∀ k t, r[k]? = some t → OkSec 4 k t) ∧ Paired (VS K H') xs r ∧ Ext d H H' ∧ H' D = some (.lst xs))
        ⟨[], [], rfl, fun k t e => by simp at e, .nil, e1.new nD, upd_same⟩ ?_ ?_
      · rintro i H' hi ⟨xs, r, lr, ok, pr, ex, hD⟩
        refine ⟨rfl, yes_turn ?_⟩
        refine ⟨_, rfl, _, rfl, _, rfl, d, i, z, by rw [Int.zero_add]; rfl, ex.dr, hi, fun v sc H4 e4 hv os' => ?_⟩
        have hD4 := e4.same D _ nDd hD
        have k45 : Keep H4 (upd H4 D (.lst (xs ++ [v]))) := keep_lst hD4
        refine ⟨xs, hD4, small1000 (by rw [pr.length, lr]; omega), xs ++ [v], r ++ [sc], by rw [List.length_append, lr]; rfl, okReq_snoc ok (by rw [lr]; exact os'), ?_, (ex.trans e4).mut nDH nDd, upd_same⟩
        exact Paired.snoc (L2.Paired.mapP pr fun _ _ q => q.keep ((Ext.keep ex.dr e4).trans k45)) (hv.keep k45)
      · rintro H2 ⟨xs, r, lr, ok, pr, ex, hD⟩
        refine ⟨D, _, rfl, .inl ⟨l_of hD, fun l nl => ?_⟩⟩
        exact q (.ref l) r _ (ex.new nl) ⟨l, xs, rfl, t_of upd_same, L2.Paired.mapP pr fun _ _ q => q.keep (keep_new nl)⟩ ⟨lr, fun k t e => (ok k t e).mono (by omega)⟩
    -- one or two sections changed
    have k1 := Ext.keep hd e1
    refine ⟨_, rfl, a, os, rfl, .inr (keep_t k1 ha), fun p np => ?_⟩
    have npd : p ≠ d := e1.dr.ne np
    have npH : H p = none := e1.none np npd
    have e2 := e1.new (o := .lst os) np
    refine ⟨_, rfl, d, _, rfl, e2.dr, (show (0 : Int) < 4 by decide), fun kk H3 k0 k4 e23 => ?_⟩
    obtain ⟨k, rfl, hk⟩ : ∃ k : Nat, kk = (k : Int) ∧ k < 4 := ⟨kk.toNat, by omega, by omega⟩
    have e3 := e2.trans e23
    have hp3 := e23.same p _ npd upd_same
    have los : os.length = 4 := by rw [po.length]; exact ox.1
    refine ⟨_, rfl, _, rfl, _, rfl, _, rfl, d, .ref a, x, N, k, z, rfl, e3.dr, VR.keep (Ext.keep hd e3) ⟨a, os, rfl, ha, po⟩, ox, ⟨N4, N40⟩, hk, fun v sc H4 e34 hv okc => ?_⟩
    have e4 := e3.trans e34
    have hp4 := e34.same p _ npd hp3
    refine ⟨_, rfl, _, rfl, p, os, _, k, rfl, rfl, hp4, Evl.ixN_nat (by rw [los]; exact hk), ?_⟩
    have k45 : Keep H4 (upd H4 p (.lst (os.set k v))) := keep_lst hp4
    have e5 := e4.mut (o := .lst (os.set k v)) npH npd
    have pr5 : Paired (VS K (upd H4 p (.lst (os.set k v)))) (os.set k v) (x.set k sc) := paired_set (hv.keep k45) k (L2.Paired.mapP po fun _ _ q => q.keep (Ext.keep hd e5))
    have ok5 : OkReq (N + 1) (x.set k sc) := okReq_set (ox.mono (Nat.le_succ _)) okc
    refine ⟨fun σ H' => ∃ (xs : List V) (y : Req) (y4 : Option V), σ = [some (.ref d), some (.ref a), some (.int z), some (.int sh), y4, some (.ref p)] ∧ Ext d H H' ∧ H' p = some (.lst xs) ∧ Paired (VS K H') xs y ∧ OkReq (N + 1) y, ?_, ?_⟩
    · refine ⟨_, rfl, _, _, rfl, rfl, _, rfl, ite2 (fun c3 => ?_) (fun c3 => ?_)⟩
      · refine ⟨_, rfl, _, rfl, _, rfl, _, _, rfl, rfl, d, _, rfl, e5.dr, (show (0 : Int) < 4 - (k : Int) by omega), fun u H6 u0 u1 e56 => ?_⟩
        have u2 : u < 4 - (k : Int) := u1
        refine ⟨_, _, rfl, rfl, ?_⟩
        have ek : (k : Int) + u = (((k + u.toNat : Nat)) : Int) := by omega
        have e6 := e5.trans e56
        have hp6 := e56.same p _ npd upd_same
        have hk2 : k + u.toNat < 4 := by omega
        refine ⟨_, rfl, _, rfl, _, rfl, _, rfl, d, .ref a, x, N, k + u.toNat, z, by rw [← ek]; rfl, e6.dr, VR.keep (Ext.keep hd e6) ⟨a, os, rfl, ha, po⟩, ox, ⟨N4, N40⟩, hk2, fun v2 sc2 H7 e67 hv2 okc2 => ?_⟩
        have e7 := e6.trans e67
        have hp7 := e67.same p _ npd hp6
        refine ⟨_, rfl, _, rfl, p, _, _, k + u.toNat, rfl, rfl, hp7, ?_, ?_⟩
        · rw [ek]
          exact Evl.ixN_nat (by rw [List.length_set, los]; exact hk2)
        · have k78 : Keep H7 (upd H7 p (.lst ((os.set k v).set (k + u.toNat) v2))) := keep_lst hp7
          have kA := (Ext.keep e5.dr (e56.trans e67)).trans k78
          exact ⟨_, _, _, rfl, e7.mut npH npd, upd_same, paired_set (hv2.keep k78) _ (L2.Paired.mapP pr5 fun _ _ q => q.keep kA), okReq_set ok5 okc2⟩
      · exact ⟨_, _, _, rfl, e5, upd_same, pr5, ok5⟩
    · rintro σ H5 ⟨xs, y, y4, rfl, e5, hp5, pr, ok⟩
      refine ⟨_, rfl, p, _, rfl, .inl ⟨l_of hp5, fun l nl => ?_⟩⟩
      exact q (.ref l) y _ (e5.new nl) ⟨l, xs, rfl, t_of upd_same, L2.Paired.mapP pr fun _ _ q => q.keep (keep_new nl)⟩ ok
end
end K9W
namespace K9W
open PySem PySem.Spec PyProof.Rows L2 K9 K9S
/-! ### == of the data -/
theorem eqvAll_map {α : Type} {g : α → PyData} : ∀ {l k : List α}, (∀ (i : Nat) a b, l[i]? = some a → k[i]? = some b → (PyData.eqv (g a) (g b) = true ↔ a = b)) → (PyData.eqvAll (l.map g) (k.map g) = true ↔ l = k)
  | [], [], _ => by simp [PyData.eqvAll]
  | [], b :: k, _ => by simp [PyData.eqvAll]
  | a :: l, [], _ => by simp [PyData.eqvAll]
  | a :: l, b :: k, h => by
    have h0 := h 0 a b rfl rfl
    have h1 := eqvAll_map (l := l) (k := k) fun i x y hx hy => h (i + 1) x y hx hy
    rw [List.map_cons, List.map_cons]
    simp only [PyData.eqvAll, Bool.and_eq_true, h0, h1, List.cons.injEq]
theorem eqv_strs (xs ys : List PySem.Str) : PyData.eqvAll (xs.map .str) (ys.map .str) = true ↔ xs = ys :=
  eqvAll_map fun i a b _ _ => by simp [PyData.eqv]
theorem eqv_dC {N M k : Nat} {c d : Cv} (oc : OkV N k c) (od : OkV M k d) : PyData.eqv (dC c) (dC d) = true ↔ c = d := by
  match k, c, oc, d, od with
  | 0, .word a, _, .word b, _ => simp [dC, PyData.eqv]
  | 1, .path a, _, .path b, _ =>
    show PyData.eqv (.tuple _) (.tuple _) = true ↔ _
    simp only [PyData.eqv, eqv_strs, Cv.path.injEq]
  | 2, .set a, _, .set b, _ =>
    show PyData.eqv (.tuple _) (.tuple _) = true ↔ _
    simp only [PyData.eqv, eqv_strs, Cv.set.injEq]
  | 3, .num a, _, .num b, _ => simp [dC, PyData.eqv]
theorem eqv_dS {N M k : Nat} {s t : Sec} (os : OkSec N k s) (ot : OkSec M k t) : PyData.eqv (dS s) (dS t) = true ↔ s = t := by
  show PyData.eqv (.tuple _) (.tuple _) = true ↔ _
  simp only [PyData.eqv]
  refine eqvAll_map fun i a b ha hb => ?_
  have h1 := os.val a (List.mem_of_getElem? ha)
  have h2 := ot.val b (List.mem_of_getElem? hb)
  obtain ⟨f, c⟩ := a
  obtain ⟨g, d⟩ := b
  show PyData.eqv (.tuple [.str f, dC c]) (.tuple [.str g, dC d]) = true ↔ _
  simp only [PyData.eqv, PyData.eqvAll, Bool.and_true, Bool.and_eq_true, eqv_dC h1 h2, Prod.mk.injEq, beq_iff_eq]
theorem eqv_dR {N M : Nat} {x y : Req} (ox : OkReq N x) (oy : OkReq M y) : PyData.eqv (dR x) (dR y) = true ↔ x = y := by
  show PyData.eqv (.tuple _) (.tuple _) = true ↔ _
  simp only [PyData.eqv]
  exact eqvAll_map fun i a b ha hb => eqv_dS (ox.2 i a ha) (oy.2 i b hb)
/-! ### data that lies well -/
theorem strOk_w {w : PySem.Str} (h : IsW w) : PyData.strOk w = true := by
  unfold PyData.strOk
  rw [← Array.all_toList, List.all_eq_true]
  intro c hc
  have := h.2.2 c hc
  exact decide_eq_true (by omega)
/-- laid, and not deep -/
def Flat (n : Nat) (d : PyData) : Prop := d.canLay0 = true ∧ d.depth ≤ n
theorem flat_all {n : Nat} : ∀ {l : List PyData}, (∀ d ∈ l, Flat n d) → PyData.canLayAll0 l = true ∧ PyData.depthAll l ≤ n
  | [], _ => by simp [PyData.canLayAll0, PyData.depthAll]
  | d :: l, h => by
    have h1 := h d List.mem_cons_self
    have h2 := flat_all (l := l) fun e he => h e (List.mem_cons_of_mem _ he)
    refine ⟨by simp [PyData.canLayAll0, h1.1, h2.1], ?_⟩
    simp only [PyData.depthAll]
    have := h1.2
    have := h2.2
    omega
theorem flat_tup {n : Nat} {l : List PyData} (h : ∀ d ∈ l, Flat n d) : Flat (n + 1) (.tuple l) := by
  have h1 := flat_all h
  refine ⟨by simp [PyData.canLay0, h1.1], ?_⟩
  simp only [PyData.depth]
  have := h1.2
  omega
theorem Flat.mono {n m : Nat} {d : PyData} (h : Flat n d) (l : n ≤ m) : Flat m d := ⟨h.1, Nat.le_trans h.2 l⟩
theorem Flat.shaped {n : Nat} {d : PyData} (h : Flat n d) (l : n ≤ 64) : SeqAt.shaped d = true := by
  unfold SeqAt.shaped
  rw [h.1, decide_eq_true (Nat.le_trans h.2 l)]
  rfl
theorem flat_str {w : PySem.Str} (h : IsW w) : Flat 0 (.str w) := ⟨by simp [PyData.canLay0, strOk_w h], by simp [PyData.depth]⟩
theorem flat_int (n : Int) : Flat 0 (.int n) := ⟨by simp [PyData.canLay0], by simp [PyData.depth]⟩
theorem flat_strs {ws : List PySem.Str} (h : ∀ w ∈ ws, IsW w) : Flat 1 (.tuple (ws.map .str)) := flat_tup fun d hd => by
  obtain ⟨w, hw, rfl⟩ := List.mem_map.mp hd
  exact flat_str (h w hw)
theorem flat_dC {N k : Nat} {c : Cv} (o : OkV N k c) : Flat 1 (dC c) := by
  match k, c, o with
  | 0, .word a, o => exact (flat_str o).mono (by omega)
  | 1, .path a, o => exact flat_strs o.2.2
  | 2, .set a, o => exact flat_strs o.2.2.2
  | 3, .num a, _ => exact (flat_int a).mono (by omega)
theorem flat_dS {N k : Nat} {s : Sec} (o : OkSec N k s) : Flat 3 (dS s) := flat_tup fun d hd => by
  obtain ⟨p, hp, rfl⟩ := List.mem_map.mp hd
  refine flat_tup (n := 1) fun e he => ?_
  rcases List.mem_cons.mp he with rfl | he
  · exact (flat_str (o.fld p hp)).mono (by omega)
  · rw [List.mem_singleton.mp he]
    exact flat_dC (o.val p hp)
theorem flat_dR {N : Nat} {r : Req} (o : OkReq N r) : Flat 4 (dR r) := flat_tup fun d hd => by
  obtain ⟨s, hs, rfl⟩ := List.mem_map.mp hd
  obtain ⟨k, hk⟩ := List.mem_iff_getElem?.mp hs
  exact flat_dS (o.2 k s hk)
end K9W
namespace K9W
open PySem PySem.Spec PyProof.Rows L2 K9 K9S
/-- a list of lists of ints -/
def Mat (H : Hp) (p : Addr) (rows : List (List Int)) : Prop := ∃ as : List Addr, H p = some (.lst (as.map V.ref)) ∧ Paired (fun a row => H a = some (.lst (row.map V.int))) as rows
theorem Mat.same {H H' : Hp} {p : Addr} {rows : List (List Int)} (h : Mat H p rows) (s : Same H H') : Mat H' p rows := let ⟨as, e, q⟩ := h; ⟨as, s _ _ e, L2.Paired.mapP q fun _ _ z => s _ _ z⟩
abbrev SgRow (m : List PySem.Str) (x : Req) (rs : List Req) (row : List Int) : Prop := Paired (fun y r => Tri (RLt m) x y r) rs row
abbrev Sg (m : List PySem.Str) (rs ss : List Req) (rows : List (List Int)) : Prop := Paired (fun x row => SgRow m x ss row) rs rows
theorem take_snoc {α : Type} {l : List α} {i : Nat} {x : α} (h : l[i]? = some x) : l.take (i + 1) = l.take i ++ [x] := by
  rw [List.take_add_one, h]
  rfl
section
variable {P : Program} {w : World} {K : PySem.W.Frag} {mg : PySem.Str → Option Value} {base : Heap}
theorem mat_app {H : Hp} {p D : Addr} {as : List Addr} {rows : List (List Int)} {row : List Int} (has : H p = some (.lst (as.map V.ref))) (ps : Paired (fun a row => H a = some (.lst (row.map V.int))) as rows) (hD : H D = some (.lst (row.map V.int))) (pD : p ≠ D) :
    Mat (upd H p (.lst (as.map V.ref ++ [.ref D]))) p (rows ++ [row]) := by
  refine ⟨as ++ [D], by rw [upd_same, List.map_append]; rfl, Paired.snoc ?_ (by rw [upd_ne pD.symm]; exact hD)⟩
  cases as with
  | nil =>
    cases ps
    exact .nil
  | cons a0 as =>
    refine L2.Paired.mapP ps fun a r z => ?_
    rw [upd_ne]
    · exact z
    · intro e
      rw [e, has] at z
      cases r with
      | nil => cases z
      | cons n r => cases z
/-! ### _law_signs -/
theorem scSg : FnScope ["_law_mentioned", "_law_asked", "_law_signs_here", "_law_one", "_law_row", "_law_sign", "_law_other_here"] ["_law_mentioned", "_law_asked"] (defScope (topS 25)) := ⟨rfl, rfl, rfl, by decide +kernel, rfl, by decide +kernel, by decide +kernel⟩
def spSigns (K : PySem.W.Frag) : Sp := fun vs H Q _ => ∃ (mv : V) (l : Addr) (m : List PySem.Str) (N : Nat) (vr : List V) (rs : List Req), vs = [mv, .ref l] ∧ VM H mv m ∧ H l = some (.lst vr) ∧ Paired (VR K H) vr rs ∧ (∀ x ∈ rs, OkReq N x) ∧ rs.length ≤ 10 ∧
  ∀ p H' rows, Same H H' → Mat H' p rows → Sg m rs rs rows → Q (.ref p) H'
theorem ok_law_signs (T : Tx K mg) {f : Addr} {fd : FuncData} (h : Fn1 K mg "_law_signs" (topS 25) ["_law_mentioned", "_law_asked"] f fd) : FnOk P w K mg base CX0 7 f fd ["_law_mentioned", "_law_asked"] (spSigns K) := by
  obtain ⟨f1, fd1, h1⟩ := T.compare_requests
  have G1 : FnOk P w K mg base CX0 6 f1 fd1 ["mentioned", "one", "other"] (spReqs K) := ok_compare_requests T h1
  obtain ⟨f2, fd2, h2⟩ := T.law_is_integer
  have G2 : FnOk P w K mg base CX0 1 f2 fd2 ["_law_value"] spIsInt := ok_law_is_integer T h2
  refine h.F.ok scSg (fun vs H Q E q => ?_) (fun cdv A outer s H vs Q E hr q => ?_)
  · obtain ⟨mv, l, m, N, vr, rs, rfl, _⟩ := q
    rfl
  · obtain ⟨mv, l, m, N, vr, rs, rfl, hm, hl, pr, ok, lr, q⟩ := q
    refine ⟨_, pss_cons (ps_set (i := 2) scSg.nd rfl (.inl rfl) (pe_lst pa_nil))
      (pss_cons (ps_for PassesOwn.never rfl (pi_list (pv 1)) (pg_name (i := 3) scSg.nd rfl (.inr rfl))
        (pss_cons (ps_setLc (i := 4) (own := [("_law_other_here", 6)]) rfl scSg.nd rfl rfl (sw_true rfl rfl rfl (by decide +kernel)) (pi_list (pv 1))
            (blkOk_by (own := [("_law_other_here", 6)]) (N := ["_law_mentioned", "_law_asked", "_law_signs_here", "_law_one", "_law_row", "_law_sign", "_law_other_here"]) (sc := defScope (topS 25)) (by decide +kernel))
            (fun _ _ _ _ _ => pg_name (i := 6) scSg.nd rfl (Or.inl rfl)) (fun _ _ _ _ _ => pts_nil)
            (fun _ _ _ _ _ => pe_call G1 hr (by rfl) h1.g h1.F.kp h1.b .nil pass0 (pa_cons (pv 0) (pa_cons (pv 3) (pa_cons (pv 6) pa_nil)))))
        (pss_cons (ps_for PassesOwn.never rfl (pi_list (pv 4)) (pg_name (i := 5) scSg.nd rfl (.inl rfl))
          (pss_one (ps_if (pw_or (pt_not (pt_val (pe_call G2 (hr.mono (by decide)) (by rfl) h2.g h2.F.kp h2.b .nil pass0 (pa_cons (pv 5) pa_nil))))
              (pw_or (pt_cmpR op_lt (pv 5) (pe_un un_neg pe_int) (nomark _)) (pw_or1 (pt_cmpR op_gt (pv 5) pe_int (nomark _))))).pt (pss_one (ps_ret pe_non)) pss_nil)))
        (pss_one (ps_expr (pe_bm PySem.F.plainAttrs_list PySem.F.slot_list_append PySem.F.type_list_append mt_append (pv 2) (pa_cons (pv 4) pa_nil)))))))
      (pss_one (ps_ret (pv 2)))), ?_⟩
    refine ⟨sz0, fun p np => ?_⟩
    have s0 : Same H (upd H p (.lst [])) := same_new np
    refine ⟨_, rfl, l, rfl, ⟨_, l_of (s0 _ _ hl)⟩, ?_⟩
    refine for_list (xs := vr) (fun i σ H' => ∃ (rows : List (List Int)) (y3 y4 y5 y6 : Option V), σ = [some mv, some (.ref l), some (.ref p), y3, y4, y5, y6] ∧ Same H H' ∧ Mat H' p rows ∧ Sg m (rs.take i) rs rows)
      ⟨[], none, none, none, none, rfl, s0, ⟨[], upd_same, .nil⟩, .nil⟩ ?_ ?_ ?_
    · rintro i σ H' _ ⟨_, _, _, _, _, _, s1, _⟩
      exact l_of (s1 _ _ hl)
    · rintro i v σ H1 hv ⟨rows, y3, y4, y5, y6, rfl, s1, mat, sg⟩
      obtain ⟨x, hx, rx⟩ := paired_getL pr hv
      have ox := ok x (List.mem_of_getElem? hx)
      refine ⟨_, rfl, l, rfl, ⟨_, l_of (s1 _ _ hl)⟩, fun D nD => ?_⟩
      have nDH : H D = none := s1.free nD
      refine lc_list (xs := vr) (fun j H' => ∃ row : List Int, Same H1 H' ∧ H' D = some (.lst (row.map V.int)) ∧ SgRow m x (rs.take j) row)
        ⟨[], same_new nD, upd_same, .nil⟩ ?_ ?_ ?_
      · rintro j H' _ ⟨_, s2, _⟩
        exact l_of (s2 _ _ (s1 _ _ hl))
      · rintro j v2 H' hv2 ⟨row, s2, hD, sr⟩
        obtain ⟨y, hy, ry⟩ := paired_getL pr hv2
        have kA := keep_same (s1.trans s2)
        have lrow : row.length ≤ 10 := by rw [← sr.length, List.length_take]; omega
        refine ⟨rfl, yes_turn ?_⟩
        refine ⟨_, rfl, _, rfl, _, rfl, mv, v, v2, m, N, x, y, rfl, hm.keep kA, rx.keep kA, ry.keep kA, ox, ok y (List.mem_of_getElem? hy), fun r H2 s3 ht => ?_⟩
        refine ⟨_, s3 _ _ hD, small1000 (by rw [List.length_map]; omega), row ++ [r], same_upd (s2.trans s3) nD, ?_, ?_⟩
        · rw [upd_same, List.map_append]
          rfl
        · rw [take_snoc hy]
          exact Paired.snoc sr ht
      · rintro H2 ⟨row, s2, hD, sr⟩
        rw [pr.length, List.take_length] at sr
        refine ⟨_, rfl, D, rfl, ⟨_, l_of hD⟩, ?_⟩
        refine for_list (xs := row.map V.int) (fun j σ H' => ∃ y5 y6, σ = [some mv, some (.ref l), some (.ref p), some v, some (.ref D), y5, y6] ∧ H' = H2) ⟨_, _, rfl, rfl⟩ ?_ ?_ ?_
        · rintro j σ H' _ ⟨_, _, _, rfl⟩
          exact l_of hD
        · rintro j vn σ H' hvn ⟨y5, y6, rfl, rfl⟩
          rw [List.getElem?_map] at hvn
          obtain ⟨n, hn, rfl⟩ := Option.map_eq_some_iff.mp hvn
          obtain ⟨y, hy, ht⟩ := paired_get sr hn
          have rg := ht.range
          refine ⟨_, rfl, n, rfl, true, rfl, iteF ?_⟩
          refine ⟨_, rfl, 1, rfl, _, _, rfl, rfl, _, rfl, ite2 (fun c => ?_) (fun c => ?_)⟩
          · exfalso
            have c1 : n < -1 := of_decide_eq_true c
            omega
          · refine ⟨_, rfl, _, _, rfl, rfl, _, rfl, ite2 (fun c2 => ?_) (fun c2 => ?_)⟩
            · exfalso
              have c1 : (1 : Int) < n := of_decide_eq_true c2
              omega
            · exact ⟨_, _, rfl, rfl⟩
        · rintro σ H' ⟨y5, y6, rfl, rfl⟩
          obtain ⟨as, has, ps⟩ := mat.same s2
          have pD : p ≠ D := by
            obtain ⟨_, e, _⟩ := mat
            exact ne_of_none e nD
          refine ⟨_, rfl, .inl ⟨rfl, _, l_of has⟩, _, rfl, p, _, _, rfl, rfl, has, ?_, rows ++ [row], _, _, _, _, rfl, same_upd (s1.trans s2) np, mat_app has ps hD pD, ?_⟩
          · rw [List.length_map, ps.length, ← sg.length, List.length_take]
            exact small1000 (by omega)
          · rw [take_snoc hx]
            exact Paired.snoc sg sr
    · rintro σ H' ⟨rows, y3, y4, y5, y6, rfl, s1, mat, sg⟩
      rw [pr.length, List.take_length] at sg
      exact ⟨_, rfl, q p H' rows s1 mat sg⟩
end
end K9W
namespace K9W
open PySem PySem.Spec PyProof.Rows L2 K9 K9S
section
variable {P : Program} {w : World} {K : PySem.W.Frag} {mg : PySem.Str → Option Value} {base : Heap}
theorem at0 {α : Type} {xs : List α} {i : Nat} {v : α} (h : xs[i]? = some v) : atI xs (0 + (i : Int)) = some v := by
  rw [Int.zero_add]
  exact atI_nat h
/-- one sign of the table -/
theorem sg_at {H : Hp} {as : List Addr} {rows : List (List Int)} {m : List PySem.Str} {rs ss : List Req} (ps : Paired (fun a row => H a = some (.lst (row.map V.int))) as rows) (sg : Sg m rs ss rows) {i j : Nat} {x y : Req} (hx : rs[i]? = some x) (hy : ss[j]? = some y) :
    ∃ (a : Addr) (row : List Int) (s : Int), as[i]? = some a ∧ H a = some (.lst (row.map V.int)) ∧ row[j]? = some s ∧ Tri (RLt m) x y s := by
  obtain ⟨row, hrow, sr⟩ := paired_getL sg hx
  obtain ⟨a, ha, e⟩ := paired_get ps hrow
  obtain ⟨s, hs, t⟩ := paired_getL sr hy
  exact ⟨a, row, s, ha, e, hs, t⟩
/-- signs[i][j] -/
theorem ix2 {σ : L2.St} {H : Hp} {Q : VK} {c ci cj : Nat} {p a : Addr} {as : List Addr} {row : List Int} {s : Int} {i j : Nat} (hc : σ[c]? = some (some (.ref p))) (hi : σ[ci]? = some (some (.int (0 + (i : Int))))) (hj : σ[cj]? = some (some (.int (0 + (j : Int)))))
    (hp : H p = some (.lst (as.map V.ref))) (ha : as[i]? = some a) (hr : H a = some (.lst (row.map V.int))) (hs : row[j]? = some s) (q : Q (.int s) H) :
    tOp (rIxL K) (tOp (rIxL K) (tVar c) (tVar ci)) (tVar cj) σ H Q := by
  refine ⟨_, hc, _, hi, p, _, _, .ref a, rfl, rfl, l_of hp, at0 (by rw [List.getElem?_map, ha]; rfl), ?_⟩
  exact ⟨_, hj, a, _, _, .int s, rfl, rfl, l_of hr, at0 (by rw [List.getElem?_map, hs]; rfl), q⟩
/-! ### _law_ordered -/
theorem scOr : FnScope ["_law_asked", "_law_signs_here", "_law_many", "_law_i", "_law_j", "_law_k"] ["_law_asked", "_law_signs_here"] (defScope (topS 26)) := ⟨rfl, rfl, rfl, by decide +kernel, rfl, by decide +kernel, by decide +kernel⟩
def spOrdered (K : PySem.W.Frag) : Sp := fun vs H Q _ => ∃ (l p : Addr) (m : List PySem.Str) (N : Nat) (vr : List V) (rs : List Req) (rows : List (List Int)), vs = [.ref l, .ref p] ∧ H l = some (.lst vr) ∧ Paired (VR K H) vr rs ∧ (∀ x ∈ rs, OkReq N x) ∧ rs.length ≤ 10 ∧ Mat H p rows ∧ Sg m rs rs rows ∧ Q (.bl true) H
theorem ok_law_ordered (T : Tx K mg) {f : Addr} {fd : FuncData} (h : Fn1 K mg "_law_ordered" (topS 26) ["_law_asked", "_law_signs_here"] f fd) : FnOk P w K mg base CX0 1 f fd ["_law_asked", "_law_signs_here"] (spOrdered K) := by
  refine h.F.ok scOr (fun vs H Q E q => ?_) (fun cdv A outer s H vs Q E hr q => ?_)
  · obtain ⟨l, p, m, N, vr, rs, rows, rfl, _⟩ := q
    rfl
  · obtain ⟨l, p, m, N, vr, rs, rows, rfl, hl, pr, ok, lr, ⟨as, has, ps⟩, sg, q⟩ := q
    refine ⟨_, pss_cons (ps_set (i := 2) scOr.nd rfl (.inl rfl) (pe_callB call_len_seq (by rfl) T.bLen (by decide +kernel) (pa_cons (pv 0) pa_nil)))
      (pss_cons (ps_for PassesOwn.never rfl (pi_range1 (by rfl) T.bRange (pa_cons (pv 2) pa_nil)) (pg_name (i := 3) scOr.nd rfl (.inl rfl))
        (pss_one (ps_for PassesOwn.never rfl (pi_range1 (by rfl) T.bRange (pa_cons (pv 2) pa_nil)) (pg_name (i := 4) scOr.nd rfl (.inl rfl))
          (pss_cons (ps_if (pw_or (pt_cmpR op_ne (pe_ix ix_list (pe_ix ix_list (pv 1) (pv 3) (fun _ _ => rfl)) (pv 4) (fun _ _ => rfl)) (pe_un un_neg (pe_ix ix_list (pe_ix ix_list (pv 1) (pv 4) (fun _ _ => rfl)) (pv 3) (fun _ _ => rfl))) (nomark _))
              (pw_or1 (pt_cmpR op_ne (pe_cmpR op_eq (pe_ix ix_list (pe_ix ix_list (pv 1) (pv 3) (fun _ _ => rfl)) (pv 4) (fun _ _ => rfl)) pe_int (nomark _))
                (pe_cmpR (op_eqD hr.units) (pe_ix ix_list (pv 0) (pv 3) (fun _ _ => rfl)) (pe_ix ix_list (pv 0) (pv 4) (fun _ _ => rfl)) (nomark _)) (nomark _)))).pt (pss_one (ps_ret pe_bl)) pss_nil)
          (pss_one (ps_for PassesOwn.never rfl (pi_range1 (by rfl) T.bRange (pa_cons (pv 2) pa_nil)) (pg_name (i := 5) scOr.nd rfl (.inl rfl))
            (pss_one (ps_if (pw_and (pt_cmpR op_le (pe_ix ix_list (pe_ix ix_list (pv 1) (pv 3) (fun _ _ => rfl)) (pv 4) (fun _ _ => rfl)) pe_int (nomark _))
                (pw_and (pt_cmpR op_le (pe_ix ix_list (pe_ix ix_list (pv 1) (pv 4) (fun _ _ => rfl)) (pv 5) (fun _ _ => rfl)) pe_int (nomark _))
                (pw_and1 (pt_cmpR op_gt (pe_ix ix_list (pe_ix ix_list (pv 1) (pv 3) (fun _ _ => rfl)) (pv 5) (fun _ _ => rfl)) pe_int (nomark _))))).pt (pss_one (ps_ret pe_bl)) pss_nil))))))))
      (pss_one (ps_ret pe_bl))), ?_⟩
    have lvr : vr.length = rs.length := pr.length
    have get : ∀ i, i < vr.length → ∃ x, rs[i]? = some x ∧ OkReq N x := fun i hi => by
      have e := List.getElem?_eq_getElem (l := rs) (i := i) (by omega)
      exact ⟨_, e, ok _ (List.getElem_mem _)⟩
    refine ⟨_, rfl, l, _, rfl, .inl (l_of hl), ?_⟩
    refine ⟨_, rfl, _, rfl, by omega, by omega, ?_⟩
    refine for_range (fun i σ H' => ∃ y3 y4 y5, σ = [some (.ref l), some (.ref p), some (.int (vr.length : Nat)), y3, y4, y5] ∧ H' = H) ⟨none, none, none, rfl, rfl⟩ ?_ ?_
    · rintro i σ H' hi ⟨y3, y4, y5, rfl, rfl⟩
      have hi' : i < vr.length := by omega
      obtain ⟨x, hx, ox⟩ := get i hi'
      refine ⟨_, rfl, _, rfl, by omega, by omega, ?_⟩
      refine for_range (fun j σ H2 => ∃ y4 y5, σ = [some (.ref l), some (.ref p), some (.int (vr.length : Nat)), some (.int (0 + (i : Int))), y4, y5] ∧ H2 = H') ⟨_, _, rfl, rfl⟩ ?_ ?_
      · rintro j σ H2 hj ⟨y4, y5, rfl, rfl⟩
        have hj' : j < vr.length := by omega
        obtain ⟨y, hy, oy⟩ := get j hj'
        obtain ⟨a1, row1, s1, ha1, hr1, hs1, t1⟩ := sg_at ps sg hx hy
        obtain ⟨a2, row2, s2, ha2, hr2, hs2, t2⟩ := sg_at ps sg hy hx
        obtain ⟨v1, hv1, rv1⟩ := paired_get pr hx
        obtain ⟨v2, hv2, rv2⟩ := paired_get pr hy
        refine ix2 (c := 1) (ci := 3) (cj := 4) rfl rfl rfl has ha1 hr1 hs1 ?_
        refine ix2 (c := 1) (ci := 4) (cj := 3) rfl rfl rfl has ha2 hr2 hs2 ?_
        refine ⟨s2, rfl, rfl, _, rfl, ite2 (fun c => ?_) (fun c => ?_)⟩
        · exfalso
          have e := tri_anti ox oy t1 t2
          have c1 : (!decide (V.int s1 = V.int (-s2))) = true := c
          rw [e, decide_eq_true rfl] at c1
          cases c1
        · refine ix2 (c := 1) (ci := 3) (cj := 4) rfl rfl rfl has ha1 hr1 hs1 ?_
          refine ⟨rfl, _, rfl, _, rfl, l, vr, _, v1, rfl, rfl, l_of hl, at0 hv1, _, rfl, _, rfl, l, vr, _, v2, rfl, rfl, l_of hl, at0 hv2, ?_⟩
          refine ⟨dR x, dR y, rv1.dp, rv2.dp, (flat_dR ox).shaped (by decide), (flat_dR oy).shaped (by decide), rfl, _, rfl, ite2 (fun c2 => ?_) (fun c2 => ?_)⟩
          · exfalso
            have c3 : (!decide (V.bl (decide (V.int s1 = V.int 0)) = V.bl (PyData.eqv (dR x) (dR y)))) = true := c2
            have e : decide (V.int s1 = V.int 0) = PyData.eqv (dR x) (dR y) := by
              rw [Bool.eq_iff_iff, decide_eq_true_eq, eqv_dR ox oy, ← tri_zero t1]
              exact ⟨fun z => V.int.inj z, fun z => by rw [z]⟩
            rw [e, decide_eq_true rfl] at c3
            cases c3
          · refine ⟨_, rfl, _, rfl, by omega, by omega, ?_⟩
            refine for_range (fun k σ H3 => ∃ y5, σ = [some (.ref l), some (.ref p), some (.int (vr.length : Nat)), some (.int (0 + (i : Int))), some (.int (0 + (j : Int))), y5] ∧ H3 = H2) ⟨_, rfl, rfl⟩ ?_ ?_
            · rintro k σ H3 hk ⟨y5, rfl, rfl⟩
              have hk' : k < vr.length := by omega
              obtain ⟨z, hz, oz⟩ := get k hk'
              obtain ⟨a3, row3, s3, ha3, hr3, hs3, t3⟩ := sg_at ps sg hy hz
              obtain ⟨a4, row4, s4, ha4, hr4, hs4, t4⟩ := sg_at ps sg hx hz
              refine ix2 (c := 1) (ci := 3) (cj := 4) rfl rfl rfl has ha1 hr1 hs1 ?_
              refine ⟨_, _, rfl, rfl, _, rfl, ite2 (fun d1 => ?_) (fun d1 => ?_)⟩
              · have e1 : s1 ≤ 0 := of_decide_eq_true d1
                refine ix2 (c := 1) (ci := 4) (cj := 5) rfl rfl rfl has ha3 hr3 hs3 ?_
                refine ⟨_, _, rfl, rfl, _, rfl, ite2 (fun d2 => ?_) (fun d2 => ?_)⟩
                · have e2 : s3 ≤ 0 := of_decide_eq_true d2
                  refine ix2 (c := 1) (ci := 3) (cj := 5) rfl rfl rfl has ha4 hr4 hs4 ?_
                  refine ⟨_, _, rfl, rfl, _, rfl, ite2 (fun d3 => ?_) (fun d3 => ?_)⟩
                  · exfalso
                    have e3 : 0 < s4 := of_decide_eq_true d3
                    have := tri_trans ox oy oz t1 t3 t4 e1 e2
                    omega
                  · exact ⟨_, rfl, rfl⟩
                · exact iteF ⟨_, rfl, rfl⟩
              · exact iteF ⟨_, rfl, rfl⟩
            · rintro σ H3 ⟨y5, rfl, rfl⟩
              exact ⟨_, _, rfl, rfl⟩
      · rintro σ H2 ⟨y4, y5, rfl, rfl⟩
        exact ⟨_, _, _, rfl, rfl⟩
    · rintro σ H' ⟨y3, y4, y5, rfl, rfl⟩
      exact q
end
end K9W
namespace K9W
open PySem PySem.Spec PyProof.Rows L2 K9 K9S
/-! ### values that make a request earlier -/
def LessV : Cv → Cv → Prop
  | .word _, _ => False
  | .path ps, c => c = .path (ps.take (ps.length - 1))
  | .set ws, c => ∃ i, i < ws.length ∧ c = .set (ws.take i ++ ws.drop (i + 1))
  | .num n, c => c = .num (if n < 0 then -n else n)
theorem flat_less {N k : Nat} {c c' : Cv} (o : OkV N k c) (l : LessV c c') : Flat 1 (dC c') := by
  match k, c, o with
  | 0, .word a, o => exact l.elim
  | 1, .path a, o =>
    have e : c' = .path (a.take (a.length - 1)) := l
    rw [e]
    exact flat_strs fun w hw => o.2.2 w (List.mem_of_mem_take hw)
  | 2, .set a, o =>
    obtain ⟨i, hi, e⟩ := (show ∃ i, i < a.length ∧ c' = .set (a.take i ++ a.drop (i + 1)) from l)
    rw [e]
    refine flat_strs fun w hw => o.2.2.2 w ?_
    rcases List.mem_append.mp hw with z | z
    · exact List.mem_of_mem_take z
    · exact List.mem_of_mem_drop z
  | 3, .num a, _ =>
    have e : c' = .num (if a < 0 then -a else a) := l
    rw [e]
    exact (flat_int _).mono (by omega)
theorem eqv_nil {ws : List PySem.Str} (h : PyData.eqv (.tuple (ws.map .str)) (.tuple []) = false) : ws ≠ [] := fun e => by
  subst e
  simp [PyData.eqv, PyData.eqvAll] at h
theorem less_ok {N k : Nat} {c c' : Cv} (o : OkV N k c) (l : LessV c c') (h1 : PyData.eqv (dC c') (.tuple []) = false) (h2 : PyData.eqv (dC c') (dC c) = false) : OkV N k c' ∧ ∀ m, CLt m c' c := by
  match k, c, o with
  | 0, .word a, o => exact l.elim
  | 1, .path a, o =>
    have e : c' = .path (a.take (a.length - 1)) := l
    subst e
    have ne := eqv_nil (ws := a.take (a.length - 1)) h1
    exact ⟨(path_short (m := []) o ne).1, fun m => (path_short (m := m) o ne).2⟩
  | 2, .set a, o =>
    obtain ⟨i, hi, e⟩ := (show ∃ i, i < a.length ∧ c' = .set (a.take i ++ a.drop (i + 1)) from l)
    subst e
    have ne := eqv_nil (ws := a.take i ++ a.drop (i + 1)) h1
    exact ⟨(set_less (m := []) o hi ne).1, fun m => (set_less (m := m) o hi ne).2⟩
  | 3, .num a, o =>
    have e : c' = .num (if a < 0 then -a else a) := l
    subst e
    have ne : (if a < 0 then -a else a) ≠ a := fun z => by
      have h3 : PyData.eqv (.int (if a < 0 then -a else a)) (.int a) = false := h2
      rw [z] at h3
      simp [PyData.eqv] at h3
    exact ⟨(num_abs (N := N) (m := []) o ne).1, fun m => (num_abs (N := N) (m := m) o ne).2⟩
section
variable {P : Program} {w : World} {K : PySem.W.Frag} {mg : PySem.Str → Option Value} {base : Heap}
/-! ### _law_lesser -/
theorem scLe : FnScope ["_law_pair", "_law_kind", "_law_worth_here", "_law_k"] ["_law_pair", "_law_kind"] (defScope (topS 27)) := ⟨rfl, rfl, rfl, by decide +kernel, rfl, by decide +kernel, by decide +kernel⟩
def spLesser (K : PySem.W.Frag) : Sp := fun vs H Q _ => ∃ (pv : V) (N k : Nat) (pc : PySem.Str × Cv), vs = [pv, .int (k : Int)] ∧ VP K H pv pc ∧ OkV N k pc.2 ∧ N ≤ 40 ∧
  ∀ p H' xs cs, Same H H' → H p = none → H' p = some (.lst xs) → Paired (VC K H') xs cs → (∀ c ∈ cs, LessV pc.2 c) → xs.length ≤ 41 → Q (.ref p) H'
theorem ok_law_lesser (T : Tx K mg) {f : Addr} {fd : FuncData} (h : Fn1 K mg "_law_lesser" (topS 27) ["_law_pair", "_law_kind"] f fd) : FnOk P w K mg base CX0 1 f fd ["_law_pair", "_law_kind"] (spLesser K) := by
  refine h.F.ok scLe (fun vs H Q E q => ?_) (fun cdv A outer s H vs Q E hr q => ?_)
  · obtain ⟨pv, N, k, pc, rfl, _⟩ := q
    rfl
  · obtain ⟨_, N, k, ⟨g, c⟩, rfl, ⟨t, x, rfl, ht, hx⟩, okc, hN, q⟩ := q
    refine ⟨_, pss_cons (ps_set (i := 2) scLe.nd rfl (.inr rfl) (pe_ix ix_tup (pv 0) pe_int (fun _ _ => rfl)))
      (pss_cons (ps_if (pt_cmpR op_eq (pv 1) pe_int (nomark _)) (pss_one (ps_ret (pe_lst pa_nil))) pss_nil)
      (pss_cons (ps_if (pt_cmpR op_eq (pv 1) pe_int (nomark _)) (pss_one (ps_ret (pe_lst (pa_cons (pe_slice sl_tupA (pv 2) po_none
          (po_some (pe_op op_sub (pe_callB call_len_seq (by rfl) T.bLen (by decide +kernel) (pa_cons (pv 2) pa_nil)) pe_int))) pa_nil)))) pss_nil)
      (pss_cons (ps_if (pt_cmpR op_eq (pv 1) pe_int (nomark _)) (pss_one (ps_ret (pe_lc (own := [("_law_k", 3)]) (g := gName 3) (tt := tYes) rfl scLe.nd
          (pi_range1 (by rfl) T.bRange (pa_cons (pe_callB call_len_seq (by rfl) T.bLen (by decide +kernel) (pa_cons (pv 2) pa_nil)) pa_nil))
          (blkOk_by (own := [("_law_k", 3)]) (N := ["_law_pair", "_law_kind", "_law_worth_here", "_law_k"]) (sc := defScope (topS 27)) (by decide +kernel))
          (fun _ _ _ _ _ => pg_name (i := 3) scLe.nd rfl (Or.inl rfl)) (fun _ _ _ _ _ => pts_nil)
          (fun _ _ _ _ _ => pe_op (r := rCatA K) op_catA (pe_slice (r := rSlA K) sl_tupA (pv 2) po_none (po_some (pv 3))) (pe_slice (r := rSlA K) sl_tupA (pv 2) (po_some (pe_op op_add (pv 3) pe_int)) po_none))))) pss_nil)
      (pss_one (ps_ret (pe_lst (pa_cons (pe_callB call_abs (by rfl) T.bAbs (by decide +kernel) (pa_cons (pv 2) pa_nil)) pa_nil))))))), ?_⟩
    refine ⟨_, rfl, t, _, 1, x, rfl, rfl, ht, atI_nat (j := 1) rfl, ?_⟩
    match k, c, okc with
    | 0, .word y, o =>
      refine ⟨_, rfl, rfl, _, rfl, iteT ?_⟩
      exact ⟨sz0, fun p np => q p _ [] [] (same_new np) np upd_same .nil (fun _ h => nomatch h) (by decide)⟩
    | 1, .path ps, o =>
      obtain ⟨a, rfl, ha⟩ := (show VT K H x ps from hx)
      have lp : 0 < ps.length := List.length_pos_iff.mpr o.1
      refine ⟨_, rfl, rfl, _, rfl, iteF ?_⟩
      refine ⟨_, rfl, rfl, _, rfl, iteT ?_⟩
      refine ⟨_, rfl, _, rfl, a, _, rfl, .inr ha, _, _, rfl, rfl, _, rfl, cut_any ha fun c1 H1 s1 hc1 => ?_⟩
      have el : (((ps.map V.str).length : Nat) : Int) - 1 = ((ps.length - 1 : Nat) : Int) := by
        rw [List.length_map]
        omega
      rw [el, cut_lo, ← List.map_take] at hc1
      refine ⟨sz1, fun p np => q p _ [.ref c1] [.path (ps.take (ps.length - 1))] (s1.trans (same_new np)) (s1.free np) upd_same (.cons ⟨c1, rfl, keep_t (keep_new np) hc1⟩ .nil) (fun c' hc' => ?_) (show 1 ≤ 41 by decide)⟩
      rw [List.mem_singleton.mp hc']
      rfl
    | 2, .set ws, o =>
      obtain ⟨a, rfl, ha⟩ := (show VT K H x ws from hx)
      have lw : ws.length ≤ N := o.2.1
      refine ⟨_, rfl, rfl, _, rfl, iteF ?_⟩
      refine ⟨_, rfl, rfl, _, rfl, iteF ?_⟩
      refine ⟨_, rfl, rfl, _, rfl, iteT ?_⟩
      refine ⟨_, rfl, a, _, rfl, .inr ha, _, rfl, by rw [List.length_map]; omega, by rw [List.length_map]; omega, fun D nD => ?_⟩
      refine lc_range (lo := 0) (n := (((ws.map V.str).length : Nat) : Int).toNat) (fun i H' => ∃ (xs : List V) (cs : List Cv), xs.length = i ∧ Same H H' ∧ H' D = some (.lst xs) ∧ Paired (VC K H') xs cs ∧ ∀ c ∈ cs, LessV (.set ws) c)
        ⟨[], [], rfl, same_new nD, upd_same, .nil, fun _ h => nomatch h⟩ ?_ ?_
      · rintro i H' hi ⟨xs, cs, lx, s1, hD, pr, hl⟩
        have hi' : i < ws.length := by
          have : (((ws.map V.str).length : Nat) : Int).toNat = ws.length := by rw [List.length_map]; omega
          omega
        rw [Int.zero_add]
        refine ⟨rfl, yes_turn ?_⟩
        have ha1 := keep_t (keep_same s1) ha
        refine ⟨_, rfl, _, rfl, _, rfl, cut_any ha1 fun c1 H1 s2 hc1 => ?_⟩
        refine ⟨_, rfl, _, rfl, _, _, rfl, rfl, _, rfl, ?_⟩
        dsimp only [tNoPart]
        refine cut_any (keep_t (keep_same s2) ha1) fun c2 H2 s3 hc2 => ?_
        have e2 : cutV (ws.map V.str) (some ((i : Int) + 1)) none = (ws.map V.str).drop (i + 1) := cut_hi _ (i + 1)
        rw [cut_lo] at hc1
        rw [e2] at hc2
        refine cat_any (keep_t (keep_same s3) hc1) hc2 (szl (by rw [List.length_take, List.length_drop, List.length_map]; omega)) fun c3 H3 s4 hc3 => ?_
        rw [← List.map_take, ← List.map_drop, ← List.map_append] at hc3
        have sA : Same H' H3 := s2.trans (s3.trans s4)
        have hD3 := sA _ _ hD
        have k34 : Keep H3 (upd H3 D (.lst (xs ++ [.ref c3]))) := keep_lst hD3
        refine ⟨xs, hD3, small1000 (by omega), xs ++ [.ref c3], cs ++ [.set (ws.take i ++ ws.drop (i + 1))], by rw [List.length_append, lx]; rfl, same_upd (s1.trans sA) nD, upd_same, ?_, fun c' hc' => ?_⟩
        · exact Paired.snoc (L2.Paired.mapP pr fun _ _ z => z.keep ((keep_same sA).trans k34)) ⟨c3, rfl, keep_t k34 hc3⟩
        · rcases List.mem_append.mp hc' with z | z
          · exact hl c' z
          · rw [List.mem_singleton.mp z]
            exact ⟨i, hi', rfl⟩
      · rintro H1 ⟨xs, cs, lx, s1, hD, pr, hl⟩
        exact q D H1 xs cs s1 nD hD pr hl (by rw [lx, List.length_map]; omega)
    | 3, .num n, o =>
      cases (show x = .int n from hx)
      refine ⟨_, rfl, rfl, _, rfl, iteF ?_⟩
      refine ⟨_, rfl, rfl, _, rfl, iteF ?_⟩
      refine ⟨_, rfl, rfl, _, rfl, iteF ?_⟩
      refine ⟨_, rfl, n, rfl, sz1, fun p np => q p _ [.int (if n < 0 then -n else n)] [.num (if n < 0 then -n else n)] (same_new np) np upd_same (.cons rfl .nil) (fun c' hc' => ?_) (show 1 ≤ 41 by decide)⟩
      rw [List.mem_singleton.mp hc']
      rfl
end
end K9W
namespace K9W
open PySem PySem.Spec PyProof.Rows L2 K9 K9S
section
variable {P : Program} {w : World} {K : PySem.W.Frag} {mg : PySem.Str → Option Value} {base : Heap}
/-! ### _law_lowered -/
theorem scLo : FnScope ["_law_one", "_law_kind", "_law_at", "_law_pairs", "_law_rows", "_law_worth_here", "_law_row"] ["_law_one", "_law_kind", "_law_at"] (defScope (topS 28)) := ⟨rfl, rfl, rfl, by decide +kernel, rfl, by decide +kernel, by decide +kernel⟩
def spLowered (K : PySem.W.Frag) : Sp := fun vs H Q _ => ∃ (ov : V) (N k j : Nat) (x : Req) (s : Sec), vs = [ov, .int (k : Int), .int (j : Int)] ∧ VR K H ov x ∧ OkReq N x ∧ N ≤ 40 ∧ x[k]? = some s ∧ j < s.length ∧
  ∀ p H' xs ys, Same H H' → H' p = some (.lst xs) → Paired (VR K H') xs ys → (∀ y ∈ ys, OkReq N y ∧ ∀ m, RLt m y x) → Q (.ref p) H'
theorem ok_law_lowered (T : Tx K mg) {f : Addr} {fd : FuncData} (h : Fn1 K mg "_law_lowered" (topS 28) ["_law_one", "_law_kind", "_law_at"] f fd) : FnOk P w K mg base CX0 2 f fd ["_law_one", "_law_kind", "_law_at"] (spLowered K) := by
  obtain ⟨f1, fd1, h1⟩ := T.law_lesser
  have G1 : FnOk P w K mg base CX0 1 f1 fd1 ["_law_pair", "_law_kind"] (spLesser K) := ok_law_lesser T h1
  refine h.F.ok scLo (fun vs H Q E q => ?_) (fun cdv A outer s H vs Q E hr q => ?_)
  · obtain ⟨ov, N, k, j, x, s, rfl, _⟩ := q
    rfl
  · obtain ⟨_, N, k, j, x, sx, rfl, ⟨a, os, rfl, ha, po⟩, ox, hN, hsx, hj, q⟩ := q
    refine ⟨_, pss_cons (ps_set (i := 3) scLo.nd rfl (.inl rfl) (pe_ix ix_tup (pv 0) (pv 1) (fun _ _ => rfl)))
      (pss_cons (ps_set (i := 4) scLo.nd rfl (.inl rfl) (pe_lst (pa_cons (pe_op op_catA (pe_slice sl_tupA (pv 3) po_none (po_some (pv 2))) (pe_slice sl_tupA (pv 3) (po_some (pe_op op_add (pv 2) pe_int)) po_none)) pa_nil)))
      (pss_cons (ps_for PassesOwn.never rfl (pi_list (pe_call G1 hr (by rfl) h1.g h1.F.kp h1.b .nil pass0 (pa_cons (pe_ix ix_tup (pv 3) (pv 2) (fun _ _ => rfl)) (pa_cons (pv 1) pa_nil)))) (pg_name (i := 5) scLo.nd rfl (.inl rfl))
        (pss_one (ps_if (pw_and (pt_cmpR (op_neD hr.units) (pv 5) (pe_tup pa_nil) (nomark _)) (pw_and1 (pt_cmpR (op_neD hr.units) (pv 5) (pe_ix ix_tup (pe_ix ix_tup (pv 3) (pv 2) (fun _ _ => rfl)) pe_int (fun _ _ => rfl)) (nomark _)))).pt
          (pss_one (ps_expr (pe_bm PySem.F.plainAttrs_list PySem.F.slot_list_append PySem.F.type_list_append mt_append (pv 4) (pa_cons
            (pe_op op_catA (pe_op op_catA (pe_slice sl_tupA (pv 3) po_none (po_some (pv 2)))
              (pe_tup (pa_cons (pe_tup (pa_cons (pe_ix ix_tup (pe_ix ix_tup (pv 3) (pv 2) (fun _ _ => rfl)) pe_int (fun _ _ => rfl)) (pa_cons (pv 5) pa_nil))) pa_nil)))
              (pe_slice sl_tupA (pv 3) (po_some (pe_op op_add (pv 2) pe_int)) po_none)) pa_nil)))) pss_nil)))
      (pss_one (ps_ret (pe_lc (own := [("_law_row", 6)]) (g := gName 6) (tt := tYes) rfl scLo.nd (pi_list (pv 4))
          (blkOk_by (own := [("_law_row", 6)]) (N := ["_law_one", "_law_kind", "_law_at", "_law_pairs", "_law_rows", "_law_worth_here", "_law_row"]) (sc := defScope (topS 28)) (by decide +kernel))
          (fun _ _ _ _ _ => pg_name (i := 6) scLo.nd rfl (Or.inl rfl)) (fun _ _ _ _ _ => pts_nil)
          (fun _ _ _ _ _ => pe_op (r := rCatA K) op_catA (pe_op (r := rCatA K) op_catA (pe_slice (r := rSlA K) sl_tupA (pv 0) po_none (po_some (pv 1))) (pe_tup (pa_cons (pv 6) pa_nil)))
            (pe_slice (r := rSlA K) sl_tupA (pv 0) (po_some (pe_op op_add (pv 1) pe_int)) po_none))))))), ?_⟩
    have okx := ox.2 k _ hsx
    obtain ⟨vx, hvx, t0, xs, rfl, ht0, pr⟩ := paired_get po hsx
    have lxs : xs.length = sx.length := pr.length
    have lx3 : xs.length ≤ 3 := by rw [lxs]; exact okx.len
    have los : os.length = 4 := by rw [po.length]; exact ox.1
    obtain ⟨⟨g, c0⟩, hs0⟩ : ∃ pc, sx[j]? = some pc := ⟨sx[j], List.getElem?_eq_getElem hj⟩
    obtain ⟨v0, hv0, t1, x0, rfl, ht1, hx0⟩ := paired_get pr hs0
    have okc0 : OkV N k c0 := okx.val (g, c0) (List.mem_of_getElem? hs0)
    have hsp := hsx
    rw [split_at hs0] at hsp
    -- pairs
    refine ⟨_, rfl, _, rfl, a, _, _, _, rfl, rfl, ha, atI_nat hvx, ?_⟩
    -- rows = [pairs[:at] + pairs[at + 1:]]
    refine ⟨_, rfl, _, rfl, _, rfl, cut_any ht0 fun c1 H1 s1 hc1 => ?_⟩
    refine ⟨_, rfl, _, rfl, _, _, rfl, rfl, _, rfl, ?_⟩
    dsimp only [tNoPart]
    refine cut_any (keep_t (keep_same s1) ht0) fun c2 H2 s2 hc2 => ?_
    have e2 : cutV xs (some ((j : Int) + 1)) none = xs.drop (j + 1) := cut_hi xs (j + 1)
    rw [cut_lo] at hc1
    rw [e2] at hc2
    refine cat_any (keep_t (keep_same s2) hc1) hc2 (szl (by rw [List.length_take, List.length_drop]; omega)) fun c3 H3 s3 hc3 => ?_
    refine ⟨sz1, fun R nR => ?_⟩
    have s0 : Same H (upd H3 R (.lst [.ref c3])) := s1.trans (s2.trans (s3.trans (same_new nR)))
    have nRH : H R = none := (s1.trans (s2.trans s3)).free nR
    have hR0 : (upd H3 R (.lst [.ref c3])) R = some (.lst [.ref c3]) := upd_same
    have hc3' := keep_t (keep_new (o := .lst [.ref c3]) nR) hc3
    generalize upd H3 R (.lst [.ref c3]) = H4 at s0 hR0 hc3'
    have pr0 : Paired (VS K H4) [.ref c3] [sx.take j ++ sx.drop (j + 1)] :=
      .cons ⟨c3, _, rfl, hc3', L2.Paired.mapP (paired_app (paired_take j pr) (paired_drop (j + 1) pr)) fun _ _ z => z.keep (keep_same s0)⟩ .nil
    have good0 : OkReq N (x.set k (sx.take j ++ sx.drop (j + 1))) ∧ ∀ m, RLt m (x.set k (sx.take j ++ sx.drop (j + 1))) x := ⟨(rlt_cut (m := []) ox hsp).1, fun m => (rlt_cut (m := m) ox hsp).2⟩
    -- the lesser values
    refine ⟨_, rfl, _, rfl, t0, _, _, _, rfl, rfl, keep_t (keep_same s0) ht0, atI_nat hv0, _, rfl, ?_⟩
    refine ⟨.ref t1, N, k, (g, c0), rfl, ⟨t1, x0, rfl, keep_t (keep_same s0) ht1, hx0.keep (keep_same s0)⟩, okc0, hN, fun L H5 vs cs s5 nL hL prl less lv => ?_⟩
    have nLR : L ≠ R := fun e => by rw [e, hR0] at nL; cases nL
    refine ⟨L, rfl, ⟨_, l_of hL⟩, ?_⟩
    have gone : ∀ {H' : Hp} {b : Addr} {o : HO}, Same H H' → (∀ b o, b ≠ R → H5 b = some o → H' b = some o) → H b = some o → H' b = some o := fun s _ e => s _ _ e
    refine for_list (xs := vs) (fun i σ H' => ∃ (rs : List V) (ss : List Sec) (y5 y6 : Option V), σ = [some (.ref a), some (.int (k : Int)), some (.int (j : Int)), some (.ref t0), some (.ref R), y5, y6] ∧ Same H H' ∧ (∀ b o, b ≠ R → H5 b = some o → H' b = some o) ∧ Keep H5 H' ∧ H' R = some (.lst rs) ∧ Paired (VS K H') rs ss ∧ rs.length ≤ i + 1 ∧
        ∀ s' ∈ ss, OkReq N (x.set k s') ∧ ∀ m, RLt m (x.set k s') x)
      ⟨_, _, none, none, rfl, s0.trans s5, fun _ _ _ e => e, Keep.refl _, s5 _ _ hR0, L2.Paired.mapP pr0 fun _ _ z => z.keep (keep_same s5), Nat.le_refl 1, fun s' hs' => by rw [List.mem_singleton.mp hs']; exact good0⟩ ?_ ?_ ?_
    · rintro i σ H' _ ⟨_, _, _, _, _, _, same, _⟩
      exact l_of (same L _ nLR hL)
    · rintro i v σ H6 hv ⟨rs, ss, y5, y6, rfl, s6, same6, k6, hR6, pr6, lr6, good⟩
      obtain ⟨c', hc', rv⟩ := paired_getL prl hv
      have lc' := less c' (List.mem_of_getElem? hc')
      have li : i < vs.length := (List.getElem?_eq_some_iff.mp hv).1
      have rv6 := rv.keep k6
      have hx06 := hx0.keep (keep_same s6)
      refine ⟨_, rfl, sz0, fun e0 n0 => ?_⟩
      have s7 : Same H6 (upd H6 e0 (.tup [])) := same_new n0
      have n0R : R ≠ e0 := ne_of_none hR6 n0
      refine ⟨dC c', .tuple [], (rv6.keep (keep_same s7)).dp, .tup (t_of upd_same) .nil, (flat_less okc0 lc').shaped (by decide), (flat_strs (ws := []) fun _ h => nomatch h).shaped (by decide), _, rfl, ?_⟩
      have same7 : ∀ b o, b ≠ R → H5 b = some o → upd H6 e0 (.tup []) b = some o := fun b o nb e => s7 _ _ (same6 b o nb e)
      have stay : ∀ {y5 : Option V}, ∃ (rs : List V) (ss : List Sec) (y5' y6' : Option V), [some (.ref a), some (.int (k : Int)), some (.int (j : Int)), some (.ref t0), some (.ref R), y5, y6] = [some (.ref a), some (.int (k : Int)), some (.int (j : Int)), some (.ref t0), some (.ref R), y5', y6'] ∧ Same H (upd H6 e0 (.tup [])) ∧ (∀ b o, b ≠ R → H5 b = some o → upd H6 e0 (.tup []) b = some o) ∧ Keep H5 (upd H6 e0 (.tup [])) ∧ (upd H6 e0 (.tup [])) R = some (.lst rs) ∧ Paired (VS K (upd H6 e0 (.tup []))) rs ss ∧ rs.length ≤ i + 1 + 1 ∧
          ∀ s' ∈ ss, OkReq N (x.set k s') ∧ ∀ m, RLt m (x.set k s') x :=
        fun {y5} => ⟨rs, ss, y5, y6, rfl, s6.trans s7, same7, k6.trans (keep_same s7), s7 _ _ hR6, L2.Paired.mapP pr6 fun _ _ z => z.keep (keep_same s7), by omega, good⟩
      refine ite2 (fun d1 => ?_) (fun d1 => ?_)
      · have n1 : PyData.eqv (dC c') (.tuple []) = false := by
          have : (!PyData.eqv (dC c') (.tuple [])) = true := d1
          simpa using this
        refine ⟨_, rfl, _, rfl, _, rfl, t0, _, _, _, rfl, rfl, keep_t (keep_same (s6.trans s7)) ht0, atI_nat hv0, t1, _, 1, x0, rfl, rfl, keep_t (keep_same (s6.trans s7)) ht1, atI_nat (j := 1) rfl, ?_⟩
        refine ⟨dC c', dC c0, (rv6.keep (keep_same s7)).dp, (hx06.keep (keep_same s7)).dp, (flat_less okc0 lc').shaped (by decide), (flat_dC okc0).shaped (by decide), _, rfl, ite2 (fun d2 => ?_) (fun d2 => ?_)⟩
        · have n2 : PyData.eqv (dC c') (dC c0) = false := by
            have : (!PyData.eqv (dC c') (dC c0)) = true := d2
            simpa using this
          obtain ⟨okc', lt'⟩ := less_ok okc0 lc' n1 n2
          have hR7 := s7 _ _ hR6
          have sH7 := s6.trans s7
          generalize hH7 : upd H6 e0 (.tup []) = H7 at s7 same7 hR7 sH7
          have pr7 : Paired (VS K H7) rs ss := L2.Paired.mapP pr6 fun _ _ z => z.keep (keep_same s7)
          refine ⟨_, rfl, .inl ⟨rfl, _, l_of hR7⟩, ?_⟩
          -- pairs[:at] + ((pairs[at][0], worth),) + pairs[at + 1:]
          refine ⟨_, rfl, _, rfl, _, rfl, cut_any (keep_t (keep_same sH7) ht0) fun b1 G1 r1 hb1 => ?_⟩
          refine ⟨_, rfl, _, rfl, t0, _, _, _, rfl, rfl, keep_t (keep_same (sH7.trans r1)) ht0, atI_nat hv0, t1, _, 0, .str g, rfl, rfl, keep_t (keep_same (sH7.trans r1)) ht1, atI_nat (j := 0) rfl, _, rfl, sz2, fun b2 nb2 => ?_⟩
          have r2 : Same G1 (upd G1 b2 (.tup [.str g, v])) := same_new nb2
          refine ⟨sz1, fun b3 nb3 => ?_⟩
          have r3 := same_new (o := .tup [.ref b2]) nb3
          rw [cut_lo] at hb1
          refine cat_any (keep_t (keep_same (r2.trans r3)) hb1) (t_of upd_same) (szl (by rw [List.length_take]; show _ + 1 ≤ 1000; omega)) fun b4 G4 r4 hb4 => ?_
          refine ⟨_, rfl, _, rfl, _, _, rfl, rfl, _, rfl, ?_⟩
          dsimp only [tNoPart]
          have q4 : Same H7 G4 := r1.trans (r2.trans (r3.trans r4))
          refine cut_any (keep_t (keep_same (sH7.trans q4)) ht0) fun b5 G5 r5 hb5 => ?_
          rw [e2] at hb5
          refine cat_any (keep_t (keep_same r5) hb4) hb5 (szl (by rw [List.length_append, List.length_take, List.length_drop]; show _ + 1 + _ ≤ 1000; omega)) fun b6 G6 r6 hb6 => ?_
          have q6 : Same H7 G6 := q4.trans (r5.trans r6)
          have hR8 := q6 _ _ hR7
          have k8 : Keep G6 (upd G6 R (.lst (rs ++ [.ref b6]))) := keep_lst hR8
          have kA : Keep H7 (upd G6 R (.lst (rs ++ [.ref b6]))) := (keep_same q6).trans k8
          have b2G : SqT K G6 b2 [.str g, v] := keep_t (keep_same (r3.trans (r4.trans (r5.trans r6)))) (t_of upd_same)
          have new : VS K (upd G6 R (.lst (rs ++ [.ref b6]))) (.ref b6) (sx.take j ++ (g, c') :: sx.drop (j + 1)) := by
            refine ⟨b6, _, rfl, keep_t k8 hb6, ?_⟩
            rw [List.append_assoc]
            have kB : Keep H (upd G6 R (.lst (rs ++ [.ref b6]))) := (keep_same (sH7.trans q6)).trans k8
            refine paired_app (L2.Paired.mapP (paired_take j pr) fun _ _ z => z.keep kB) (.cons ?_ (L2.Paired.mapP (paired_drop (j + 1) pr) fun _ _ z => z.keep kB))
            exact ⟨b2, v, rfl, keep_t k8 b2G, (rv6.keep (keep_same s7)).keep kA⟩
          refine ⟨R, rs, _, rfl, rfl, hR8, small1000 ?_, rs ++ [.ref b6], ss ++ [sx.take j ++ (g, c') :: sx.drop (j + 1)], _, _, rfl, same_upd (sH7.trans q6) nRH, fun b o nb e => ?_, (k6.trans (keep_same s7)).trans kA, upd_same, ?_, ?_, ?_⟩
          · omega
          · rw [upd_ne nb]
            exact q6 _ _ (same7 b o nb e)
          · exact Paired.snoc (L2.Paired.mapP pr7 fun _ _ z => z.keep kA) new
          · rw [List.length_append, List.length_singleton]
            omega
          · intro s' hs'
            rcases List.mem_append.mp hs' with z | z
            · exact good s' z
            · rw [List.mem_singleton.mp z]
              exact ⟨(rlt_put (m := []) ox hsp okc' (lt' _)).1, fun m => (rlt_put (m := m) ox hsp okc' (lt' m)).2⟩
        · exact stay
      · exact iteF stay
    · rintro σ H6 ⟨rs, ss, y5, y6, rfl, s6, same6, k6, hR6, pr6, lr6, good⟩
      have lvs : rs.length ≤ 42 := by omega
      refine ⟨_, rfl, R, rfl, ⟨_, l_of hR6⟩, fun D nD => ?_⟩
      have nDH : H D = none := s6.free nD
      refine lc_list (xs := rs) (fun i H' => ∃ (xs : List V) (ys : List Req), xs.length = i ∧ Same H6 H' ∧ H' D = some (.lst xs) ∧ Paired (VR K H') xs ys ∧ ∀ y ∈ ys, OkReq N y ∧ ∀ m, RLt m y x)
        ⟨[], [], rfl, same_new nD, upd_same, .nil, fun _ h => nomatch h⟩ ?_ ?_ ?_
      · rintro i H' _ ⟨_, _, _, s7, _⟩
        exact l_of (s7 _ _ hR6)
      · rintro i v H7 hv ⟨xs', ys, lx', s7, hD, pr7, gd⟩
        obtain ⟨s', hs', rv⟩ := paired_getL pr6 hv
        have li : i < rs.length := (List.getElem?_eq_some_iff.mp hv).1
        have sH7 := s6.trans s7
        refine ⟨rfl, yes_turn ?_⟩
        refine ⟨_, rfl, _, rfl, _, rfl, cut_any (keep_t (keep_same sH7) ha) fun b1 G1 r1 hb1 => ?_⟩
        rw [cut_lo] at hb1
        refine ⟨_, rfl, sz1, fun b2 nb2 => ?_⟩
        have r2 := same_new (o := .tup [v]) nb2
        refine cat_any (keep_t (keep_same r2) hb1) (t_of upd_same) (szl (by rw [List.length_take]; show _ + 1 ≤ 1000; omega)) fun b3 G3 r3 hb3 => ?_
        refine ⟨_, rfl, _, rfl, _, _, rfl, rfl, _, rfl, ?_⟩
        dsimp only [tNoPart]
        have q3 : Same H7 G3 := r1.trans (r2.trans r3)
        refine cut_any (keep_t (keep_same (sH7.trans q3)) ha) fun b4 G4 r4 hb4 => ?_
        have e3 : cutV os (some ((k : Int) + 1)) none = os.drop (k + 1) := cut_hi os (k + 1)
        rw [e3] at hb4
        refine cat_any (keep_t (keep_same r4) hb3) hb4 (szl (by rw [List.length_append, List.length_take, List.length_drop]; show _ + 1 + _ ≤ 1000; omega)) fun b5 G5 r5 hb5 => ?_
        have q5 : Same H7 G5 := q3.trans (r4.trans r5)
        have hD5 := q5 _ _ hD
        have k5 : Keep G5 (upd G5 D (.lst (xs' ++ [.ref b5]))) := keep_lst hD5
        have kA : Keep H7 (upd G5 D (.lst (xs' ++ [.ref b5]))) := (keep_same q5).trans k5
        have kB : Keep H (upd G5 D (.lst (xs' ++ [.ref b5]))) := (keep_same sH7).trans kA
        refine ⟨xs', hD5, small1000 (by omega), xs' ++ [.ref b5], ys ++ [x.set k s'], by rw [List.length_append, lx']; rfl, same_upd (s7.trans q5) nD, upd_same, ?_, fun y hy => ?_⟩
        · refine Paired.snoc (L2.Paired.mapP pr7 fun _ _ z => z.keep kA) ⟨b5, _, rfl, keep_t k5 hb5, ?_⟩
          rw [set_split hsx, List.append_assoc]
          exact paired_app (L2.Paired.mapP (paired_take k po) fun _ _ z => z.keep kB) (.cons (rv.keep ((keep_same s7).trans kA)) (L2.Paired.mapP (paired_drop (k + 1) po) fun _ _ z => z.keep kB))
        · rcases List.mem_append.mp hy with z | z
          · exact gd y z
          · rw [List.mem_singleton.mp z]
            exact good s' (List.mem_of_getElem? hs')
      · rintro H7 ⟨xs', ys, lx', s7, hD, pr7, gd⟩
        exact q D H7 xs' ys (s6.trans s7) hD pr7 gd
end
end K9W
namespace K9W
open PySem PySem.Spec PyProof.Rows L2 K9 K9S
section
variable {P : Program} {w : World} {K : PySem.W.Frag} {mg : PySem.Str → Option Value} {base : Heap}
/-! ### _law_falls -/
theorem scFa : FnScope ["_law_mentioned", "_law_one", "_law_kind", "_law_at", "_law_lower"] ["_law_mentioned", "_law_one"] (defScope (topS 29)) := ⟨rfl, rfl, rfl, by decide +kernel, rfl, by decide +kernel, by decide +kernel⟩
def spFalls (K : PySem.W.Frag) : Sp := fun vs H Q _ => ∃ (mv ov : V) (m : List PySem.Str) (N : Nat) (x : Req), vs = [mv, ov] ∧ VM H mv m ∧ VR K H ov x ∧ OkReq N x ∧ N ≤ 40 ∧ ∀ H', Q (.bl true) H'
theorem ok_law_falls (T : Tx K mg) {f : Addr} {fd : FuncData} (h : Fn1 K mg "_law_falls" (topS 29) ["_law_mentioned", "_law_one"] f fd) : FnOk P w K mg base CX0 7 f fd ["_law_mentioned", "_law_one"] (spFalls K) := by
  obtain ⟨f1, fd1, h1⟩ := T.law_lowered
  have G1 : FnOk P w K mg base CX0 2 f1 fd1 ["_law_one", "_law_kind", "_law_at"] (spLowered K) := ok_law_lowered T h1
  obtain ⟨f2, fd2, h2⟩ := T.compare_requests
  have G2 : FnOk P w K mg base CX0 6 f2 fd2 ["mentioned", "one", "other"] (spReqs K) := ok_compare_requests T h2
  refine h.F.ok scFa (fun vs H Q E q => ?_) (fun cdv A outer s H vs Q E hr q => ?_)
  · obtain ⟨mv, ov, m, N, x, rfl, _⟩ := q
    rfl
  · obtain ⟨mv, _, m, N, x, rfl, hm, ⟨a, os, rfl, ha, po⟩, ox, hN, q⟩ := q
    refine ⟨_, pss_cons (ps_for PassesOwn.never rfl (pi_range1 (by rfl) T.bRange (pa_cons pe_int pa_nil)) (pg_name (i := 2) scFa.nd rfl (.inl rfl))
        (pss_one (ps_for PassesOwn.never rfl (pi_range1 (by rfl) T.bRange (pa_cons (pe_callB call_len_seq (by rfl) T.bLen (by decide +kernel) (pa_cons (pe_ix ix_tup (pv 1) (pv 2) (fun _ _ => rfl)) pa_nil)) pa_nil)) (pg_name (i := 3) scFa.nd rfl (.inl rfl))
          (pss_one (ps_for PassesOwn.never rfl (pi_list (pe_call G1 (hr.mono (by decide)) (by rfl) h1.g h1.F.kp h1.b .nil pass0 (pa_cons (pv 1) (pa_cons (pv 2) (pa_cons (pv 3) pa_nil))))) (pg_name (i := 4) scFa.nd rfl (.inl rfl))
            (pss_one (ps_if (pw_or (pt_cmpR op_ne (pe_call G2 hr (by rfl) h2.g h2.F.kp h2.b .nil pass0 (pa_cons (pv 0) (pa_cons (pv 4) (pa_cons (pv 1) pa_nil)))) (pe_un un_neg pe_int) (nomark _))
                (pw_or1 (pt_cmpR op_ne (pe_call G2 hr (by rfl) h2.g h2.F.kp h2.b .nil pass0 (pa_cons (pv 0) (pa_cons (pv 1) (pa_cons (pv 4) pa_nil)))) pe_int (nomark _)))).pt (pss_one (ps_ret pe_bl)) pss_nil)))))))
      (pss_one (ps_ret pe_bl)), ?_⟩
    refine ⟨4, rfl, by decide, by decide, ?_⟩
    refine for_range (fun i σ H' => ∃ y2 y3 y4, σ = [some mv, some (.ref a), y2, y3, y4] ∧ Same H H') ⟨none, none, none, rfl, Same.refl H⟩ ?_ ?_
    · rintro k σ H1 hk ⟨y2, y3, y4, rfl, s1⟩
      have hk4 : k < 4 := hk
      rw [Int.zero_add]
      obtain ⟨sx, hsx⟩ : ∃ sx, x[k]? = some sx := ⟨x[k]'(by rw [ox.1]; exact hk4), List.getElem?_eq_getElem _⟩
      obtain ⟨vx, hvx, t0, xs, rfl, ht0, pr⟩ := paired_get po hsx
      have lxs : xs.length = sx.length := pr.length
      have lx3 : xs.length ≤ 3 := by rw [lxs]; exact (ox.2 k _ hsx).len
      refine ⟨_, rfl, _, rfl, a, _, _, _, rfl, rfl, keep_t (keep_same s1) ha, atI_nat hvx, t0, xs, rfl, .inr (keep_t (keep_same s1) ht0), _, rfl, by omega, by omega, ?_⟩
      refine for_range (fun i σ H' => ∃ y3 y4, σ = [some mv, some (.ref a), some (.int (k : Int)), y3, y4] ∧ Same H H') ⟨_, _, rfl, s1⟩ ?_ ?_
      · rintro j σ H2 hj ⟨y3, y4, rfl, s2⟩
        have hj' : j < sx.length := by omega
        rw [Int.zero_add]
        refine ⟨_, rfl, _, rfl, _, rfl, .ref a, N, k, j, x, sx, rfl, VR.keep (keep_same s2) ⟨a, os, rfl, ha, po⟩, ox, hN, hsx, hj', fun L H3 vs ys s3 hL prl low => ?_⟩
        refine ⟨L, rfl, ⟨_, l_of hL⟩, ?_⟩
        refine for_list (xs := vs) (fun i σ H' => ∃ y4, σ = [some mv, some (.ref a), some (.int (k : Int)), some (.int (j : Int)), y4] ∧ Same H3 H') ⟨_, rfl, Same.refl _⟩ ?_ ?_ ?_
        · rintro i σ H' _ ⟨_, _, s4⟩
          exact l_of (s4 _ _ hL)
        · rintro i v σ H4 hv ⟨y4, rfl, s4⟩
          obtain ⟨y, hy, rv⟩ := paired_getL prl hv
          obtain ⟨oy, lt⟩ := low y (List.mem_of_getElem? hy)
          have sA : Same H H4 := s2.trans (s3.trans s4)
          have rx : VR K H4 (.ref a) x := VR.keep (keep_same sA) ⟨a, os, rfl, ha, po⟩
          refine ⟨_, rfl, _, rfl, _, rfl, mv, v, .ref a, m, N, y, x, rfl, hm.keep (keep_same sA), rv.keep (keep_same s4), rx, oy, ox, fun r H5 s5 ht => ?_⟩
          have er := tri_lt oy ox (lt m) ht
          subst er
          refine ⟨1, rfl, rfl, _, rfl, ite2 (fun c => absurd (show (!decide (V.int (-1) = V.int (-1))) = true from c) (by decide)) (fun _ => ?_)⟩
          have sB := sA.trans s5
          refine ⟨_, rfl, _, rfl, _, rfl, mv, .ref a, v, m, N, x, y, rfl, hm.keep (keep_same sB), rx.keep (keep_same s5), rv.keep (keep_same (s4.trans s5)), ox, oy, fun r H6 s6 ht => ?_⟩
          have er := tri_gt oy ox (lt m) ht
          subst er
          refine ⟨rfl, _, rfl, ite2 (fun c => absurd (show (!decide (V.int 1 = V.int 1)) = true from c) (by decide)) (fun _ => ?_)⟩
          exact ⟨_, rfl, s4.trans (s5.trans s6)⟩
        · rintro σ H4 ⟨y4, rfl, s4⟩
          exact ⟨_, _, rfl, s2.trans (s3.trans s4)⟩
      · rintro σ H2 ⟨y3, y4, rfl, s2⟩
        exact ⟨_, _, _, rfl, s2⟩
    · rintro σ H1 ⟨y2, y3, y4, rfl, s1⟩
      exact q H1
end
end K9W
namespace K9W
open PySem PySem.Spec PyProof.Rows L2 K9 K9S
section
variable {P : Program} {w : World} {K : PySem.W.Frag} {mg : PySem.Str → Option Value} {base : Heap}
/-! ### the law -/
theorem scLaw : FnScope ["_law_script", "_law_draws_here", "_law_cell_here", "_law_k", "_law_mentioned", "_law_one", "_law_other_here", "_law_third", "_law_asked", "_law_signs_here", "_law_kind"] ["_law_script"] (defScope (topS 30)) := ⟨rfl, rfl, rfl, by decide +kernel, rfl, by decide +kernel, by decide +kernel⟩
def spLaw (K : PySem.W.Frag) : Sp := fun vs H Q _ => ∃ (a : Addr) (ns : List Int), vs = [.ref a] ∧ SqL K H a (ns.map V.int) ∧ ns.length ≤ 63 ∧ ∀ H', Q (.bl true) H'
theorem vr_empty {H : Hp} {p a b c d : Addr} (hp : SqT K H p [.ref a, .ref b, .ref c, .ref d]) (ha : SqT K H a []) (hb : SqT K H b []) (hc : SqT K H c []) (hd : SqT K H d []) : VR K H (.ref p) emptyReq :=
  ⟨p, _, rfl, hp, .cons ⟨a, _, rfl, ha, .nil⟩ (.cons ⟨b, _, rfl, hb, .nil⟩ (.cons ⟨c, _, rfl, hc, .nil⟩ (.cons ⟨d, _, rfl, hd, .nil⟩ .nil)))⟩
theorem ok_law (T : Tx K mg) {f : Addr} {fd : FuncData} (h : Fn1 K mg "law" (topS 30) ["_law_script"] f fd) : FnOk P w K mg base CX0 8 f fd ["_law_script"] (spLaw K) := by
  obtain ⟨fD, fdD, hD⟩ := T.law_draws
  have GD : FnOk P w K mg base CX0 1 fD fdD ["_law_script", "_law_many"] (spDraws K) := ok_law_draws T hD
  obtain ⟨fC, fdC, hC⟩ := T.law_cell
  have GC : FnOk P w K mg base CX0 2 fC fdC ["_law_script", "_law_draws_here"] (spLCell K) := ok_law_cell T hC
  obtain ⟨fT, fdT, hT⟩ := T.law_take
  have GT : FnOk P w K mg base CX0 1 fT fdT ["_law_draws_here", "_law_many"] spTake := ok_law_take T hT
  obtain ⟨fW, fdW, hW⟩ := T.law_some_word
  have GW : FnOk P w K mg base CX0 2 fW fdW ["_law_draws_here"] spSomeWord := ok_law_some_word T hW
  obtain ⟨fS, fdS, hS⟩ := T.law_section
  have GS : FnOk P w K mg base CX0 4 fS fdS ["_law_draws_here", "_law_kind", "_law_most", "_law_cell_here"] (spSection K) := ok_law_section T hS
  obtain ⟨fO, fdO, hO⟩ := T.law_other
  have GO : FnOk P w K mg base CX0 6 fO fdO ["_law_draws_here", "_law_one", "_law_cell_here"] (spOther K) := ok_law_other T hO
  obtain ⟨fG, fdG, hG⟩ := T.law_signs
  have GG : FnOk P w K mg base CX0 7 fG fdG ["_law_mentioned", "_law_asked"] (spSigns K) := ok_law_signs T hG
  obtain ⟨fR, fdR, hR⟩ := T.law_ordered
  have GR : FnOk P w K mg base CX0 1 fR fdR ["_law_asked", "_law_signs_here"] (spOrdered K) := ok_law_ordered T hR
  obtain ⟨fF, fdF, hF⟩ := T.law_falls
  have GF : FnOk P w K mg base CX0 7 fF fdF ["_law_mentioned", "_law_one"] (spFalls K) := ok_law_falls T hF
  refine h.F.ok scLaw (fun vs H Q E q => ?_) (fun cdv A outer s H vs Q E hr q => ?_)
  · obtain ⟨a, ns, rfl, _⟩ := q
    rfl
  · obtain ⟨a, ns, rfl, ha, ln, q⟩ := q
    refine ⟨_, pss_cons (ps_set (i := 1) scLaw.nd rfl (.inr rfl) (pe_call GD (hr.mono (by decide)) (by rfl) hD.g hD.F.kp hD.b .nil pass0 (pa_cons (pv 0) (pa_cons pe_int pa_nil))))
      (pss_cons (ps_set (i := 2) scLaw.nd rfl (.inr rfl) (pe_call GC (hr.mono (by decide)) (by rfl) hC.g hC.F.kp hC.b .nil pass0 (pa_cons (pv 0) (pa_cons (pv 1) pa_nil))))
      (pss_cons (ps_set (i := 4) scLaw.nd rfl (.inl rfl) (pe_callTy cr_tupleF (by rfl) T.bTuple (by decide +kernel) (pa_cons (pe_callB (cr_sortedSS rfl) (by rfl) T.bSorted (by decide +kernel) (pa_cons (pe_callTy (cr_setOfS rfl) (by rfl) T.bSet (by decide +kernel) (pa_cons
          (pe_lc (own := [("_law_k", 3)]) (g := gName 3) (tt := tYes) rfl scLaw.nd (pi_range1 (by rfl) T.bRange (pa_cons (pe_call GT (hr.mono (by decide)) (by rfl) hT.g hT.F.kp hT.b .nil pass0 (pa_cons (pv 1) (pa_cons pe_int pa_nil))) pa_nil))
            (blkOk_by (own := [("_law_k", 3)]) (N := ["_law_script", "_law_draws_here", "_law_cell_here", "_law_k", "_law_mentioned", "_law_one", "_law_other_here", "_law_third", "_law_asked", "_law_signs_here", "_law_kind"]) (sc := defScope (topS 30)) (by decide +kernel))
            (fun _ _ _ _ _ => pg_name (i := 3) scLaw.nd rfl (Or.inl rfl)) (fun _ _ _ _ _ => pts_nil)
            (fun _ _ _ _ _ => pe_call GW (hr.mono (by decide)) (by rfl) hW.g hW.F.kp hW.b .nil pass0 (pa_cons (pv 1) pa_nil))) pa_nil)) pa_nil)) pa_nil)))
      (pss_cons (ps_set (i := 5) scLaw.nd rfl (.inl rfl) (pe_callTy call_tuple_of (by rfl) T.bTuple (by decide +kernel) (pa_cons
          (pe_lc (own := [("_law_kind", 10)]) (g := gName 10) (tt := tYes) rfl scLaw.nd (pi_range1 (by rfl) T.bRange (pa_cons pe_int pa_nil))
            (blkOk_by (own := [("_law_kind", 10)]) (N := ["_law_script", "_law_draws_here", "_law_cell_here", "_law_k", "_law_mentioned", "_law_one", "_law_other_here", "_law_third", "_law_asked", "_law_signs_here", "_law_kind"]) (sc := defScope (topS 30)) (by decide +kernel))
            (fun _ _ _ _ _ => pg_name (i := 10) scLaw.nd rfl (Or.inl rfl)) (fun _ _ _ _ _ => pts_nil)
            (fun _ _ _ _ _ => pe_call GS (hr.mono (by decide)) (by rfl) hS.g hS.F.kp hS.b .nil pass0 (pa_cons (pv 1) (pa_cons (pv 10) (pa_cons pe_int (pa_cons (pv 2) pa_nil)))))) pa_nil)))
      (pss_cons (ps_set (i := 6) scLaw.nd rfl (.inl rfl) (pe_call GO (hr.mono (by decide)) (by rfl) hO.g hO.F.kp hO.b .nil pass0 (pa_cons (pv 1) (pa_cons (pv 5) (pa_cons (pv 2) pa_nil)))))
      (pss_cons (ps_set (i := 7) scLaw.nd rfl (.inl rfl) (pe_call GO (hr.mono (by decide)) (by rfl) hO.g hO.F.kp hO.b .nil pass0 (pa_cons (pv 1) (pa_cons (pv 6) (pa_cons (pv 2) pa_nil)))))
      (pss_cons (ps_set (i := 8) scLaw.nd rfl (.inl rfl) (pe_lst (pa_cons (pv 5) (pa_cons (pv 6) (pa_cons (pv 7) (pa_cons
          (pe_tup (pa_cons (pe_tup pa_nil) (pa_cons (pe_tup pa_nil) (pa_cons (pe_tup pa_nil) (pa_cons (pe_tup pa_nil) pa_nil))))) pa_nil))))))
      (pss_cons (ps_set (i := 9) scLaw.nd rfl (.inl rfl) (pe_call GG hr (by rfl) hG.g hG.F.kp hG.b .nil pass0 (pa_cons (pv 4) (pa_cons (pv 8) pa_nil))))
      (pss_cons (ps_if (pw_or (pt_cmpR op_isN (pv 9) pe_non (nomark _)) (pw_or1 (pt_not (pt_val (pe_call GR (hr.mono (by decide)) (by rfl) hR.g hR.F.kp hR.b .nil pass0 (pa_cons (pv 8) (pa_cons (pv 9) pa_nil))))))).pt (pss_one (ps_ret pe_bl)) pss_nil)
      (pss_cons (ps_for PassesOwn.never rfl (pi_range1 (by rfl) T.bRange (pa_cons pe_int pa_nil)) (pg_name (i := 3) scLaw.nd rfl (.inl rfl))
        (pss_one (ps_if (pt_cmpR op_ne (pe_ix ix_list (pe_ix ix_list (pv 9) pe_int (fun _ _ => rfl)) (pv 3) (fun _ _ => rfl))
            (pe_un un_neg (pe_callTy call_int1 (by rfl) T.bInt (by decide +kernel) (pa_cons (pe_cmpR (op_neD hr.units) (pe_ix ix_list (pv 8) (pv 3) (fun _ _ => rfl)) (pe_ix ix_list (pv 8) pe_int (fun _ _ => rfl)) (nomark _)) pa_nil))) (nomark _)) (pss_one (ps_ret pe_bl)) pss_nil)))
      (pss_one (ps_ret (pe_call GF hr (by rfl) hF.g hF.F.kp hF.b .nil pass0 (pa_cons (pv 4) (pa_cons
          (pe_ix ix_list (pv 8) (pe_call GT (hr.mono (by decide)) (by rfl) hT.g hT.F.kp hT.b .nil pass0 (pa_cons (pv 1) (pa_cons pe_int pa_nil))) (fun _ _ => rfl)) pa_nil)))))))))))))), ?_⟩
    -- draws, cell
    refine ⟨_, rfl, a, ns, 540, rfl, ha, by omega, ⟨by decide, by decide⟩, fun d H1 s1 nd d1 => ?_⟩
    refine ⟨_, rfl, _, rfl, a, d, ns, rfl, Script.mk ha s1 nd, d1, fun z H2 e2 => ?_⟩
    have d2 : Dr H2 d := e2.dr
    clear e2 d1
    -- mentioned
    refine ⟨_, rfl, d, _, rfl, d2, (show (0 : Int) < 6 by decide), fun u H3 u0 u1 e3 => ?_⟩
    refine ⟨_, rfl, by omega, by omega, fun D nD => ?_⟩
    have nDd : D ≠ d := e3.dr.ne nD
    have nDH : H2 D = none := e3.none nD nDd
    refine lc_range (lo := 0) (n := u.toNat) (fun i H' => ∃ ws : List PySem.Str, ws.length = i ∧ (∀ x ∈ ws, IsW x) ∧ Ext d H2 H' ∧ H' D = some (.lst (ws.map V.str)))
      ⟨[], rfl, fun _ h => (nomatch h), e3.new nD, upd_same⟩ ?_ ?_
    · rintro i H' hi ⟨ws, lw, hw, ex, hD'⟩
      refine ⟨rfl, yes_turn ?_⟩
      refine ⟨_, rfl, d, rfl, ex.dr, fun x H4 hx e4 => ?_⟩
      have hD2 := e4.same D _ nDd hD'
      refine ⟨_, hD2, small1000 (by rw [List.length_map]; omega), ws ++ [x], by rw [List.length_append, lw]; rfl, fun y hy => ?_, (ex.trans e4).mut nDH nDd, ?_⟩
      · rcases List.mem_append.mp hy with q1 | q1
        · exact hw y q1
        · rw [List.mem_singleton.mp q1]; exact hx
      · rw [upd_same, List.map_append]
        rfl
    rintro H4 ⟨ws, lw, hw, ex4, hD4⟩
    refine ⟨D, ws, rfl, l_of hD4, Nat.lt_of_le_of_lt (show ws.length + 1 ≤ 10 by omega) (by decide), fun S nS => ?_⟩
    have l1 := length_addsL ws
    refine ⟨S, _, rfl, upd_same, by omega, fun m p1 _ _ n1 => ?_⟩
    refine ⟨p1, _, rfl, l_of upd_same, fun mt ob n2 hob => ?_⟩
    have ex5 := ((ex4.new nS).new n1).new (o := .frz ob (.tup (m.map V.str))) n2
    have d5 := ex5.dr
    generalize hH5 : upd (upd (upd H4 S _) p1 _) mt (.frz ob (.tup (m.map V.str))) = H5 at ex5 d5
    have hm : VM H5 (.ref mt) m := ⟨mt, ob, rfl, by rw [← hH5]; exact upd_same, hob⟩
    clear hH5 ex5 n2 n1 nS l1 hD4 ex4 hw lw nDH nDd nD e3
    -- one
    refine ⟨4, rfl, by decide, by decide, fun D nD => ?_⟩
    have nDd : D ≠ d := d5.ne nD
    have e50 := (Ext.refl d5).new (o := .lst []) nD
    refine lc_range (lo := 0) (n := 4) (fun i H' => ∃ (xs : List V) (r : Req), r.length = i ∧ (∀ k t, r[k]? = some t → OkSec 4 k t) ∧ Paired (VS K H') xs r ∧ Ext d H5 H' ∧ H' D = some (.lst xs))
      ⟨[], [], rfl, fun k t e => by simp at e, .nil, e50, upd_same⟩ ?_ ?_
    · rintro i H' hi ⟨xs, r, lr, ok, pr, ex, hD'⟩
      refine ⟨rfl, yes_turn ?_⟩
      refine ⟨_, rfl, _, rfl, _, rfl, d, i, z, by rw [Int.zero_add]; rfl, ex.dr, hi, fun v sc H6 e6 hv os' => ?_⟩
      have hD6 := e6.same D _ nDd hD'
      have k67 : Keep H6 (upd H6 D (.lst (xs ++ [v]))) := keep_lst hD6
      refine ⟨xs, hD6, small1000 (by rw [pr.length, lr]; omega), xs ++ [v], r ++ [sc], by rw [List.length_append, lr]; rfl, okReq_snoc ok (by rw [lr]; exact os'), ?_, (ex.trans e6).mut nD nDd, upd_same⟩
      exact Paired.snoc (L2.Paired.mapP pr fun _ _ q => q.keep ((Ext.keep ex.dr e6).trans k67)) (hv.keep k67)
    rintro H6 ⟨xs, r1, lr, ok, pr, ex6, hD6⟩
    refine ⟨D, _, rfl, .inl ⟨l_of hD6, fun t1 nt1 => ?_⟩⟩
    have ex7 := ex6.new (o := .tup xs) nt1
    have v1 : VR K (upd H6 t1 (.tup xs)) (.ref t1) r1 := ⟨t1, xs, rfl, t_of upd_same, L2.Paired.mapP pr fun _ _ q => q.keep (keep_new nt1)⟩
    have o1 : OkReq 4 r1 := ⟨lr, ok⟩
    have m7 := hm.keep (Ext.keep d5 ex7)
    have d7 := ex7.dr
    generalize upd H6 t1 (.tup xs) = H7 at ex7 v1 m7 d7
    clear hD6 ex6 pr nt1
    -- other, third
    refine ⟨_, rfl, _, rfl, _, rfl, d, .ref t1, r1, 4, z, rfl, d7, v1, o1, ⟨by decide, by decide⟩, fun w2 r2 H8 e8 v2 o2 => ?_⟩
    have k8 := Ext.keep d7 e8
    refine ⟨_, rfl, _, rfl, _, rfl, d, w2, r2, 5, z, rfl, e8.dr, v2, o2, ⟨by decide, by decide⟩, fun w3 r3 H9 e9 v3 o3 => ?_⟩
    have k9 := Ext.keep e8.dr e9
    have v1' := (v1.keep k8).keep k9
    have v2' := v2.keep k9
    have m9 := (m7.keep k8).keep k9
    have d9 := e9.dr
    -- asked
    refine ⟨_, rfl, _, rfl, _, rfl, sz0, fun a1 na1 => ⟨sz0, fun a2 na2 => ⟨sz0, fun a3 na3 => ⟨sz0, fun a4 na4 => ⟨sz4, fun ae nae => ⟨sz4, fun l nl => ?_⟩⟩⟩⟩⟩⟩
    have q1 := same_new (o := .tup []) na1
    have q2 := same_new (o := .tup []) na2
    have q3 := same_new (o := .tup []) na3
    have q4 := same_new (o := .tup []) na4
    have q5 := same_new (o := .tup [.ref a1, .ref a2, .ref a3, .ref a4]) nae
    have q6 := same_new (o := .lst [.ref t1, w2, w3, .ref ae]) nl
    have qA := q1.trans (q2.trans (q3.trans (q4.trans (q5.trans q6))))
    have hl : (upd (upd (upd (upd (upd (upd H9 a1 (.tup [])) a2 (.tup [])) a3 (.tup [])) a4 (.tup [])) ae (.tup [.ref a1, .ref a2, .ref a3, .ref a4])) l (.lst [.ref t1, w2, w3, .ref ae])) l = some (.lst [.ref t1, w2, w3, .ref ae]) := upd_same
    have v4 : VR K (upd (upd (upd (upd (upd (upd H9 a1 (.tup [])) a2 (.tup [])) a3 (.tup [])) a4 (.tup [])) ae (.tup [.ref a1, .ref a2, .ref a3, .ref a4])) l (.lst [.ref t1, w2, w3, .ref ae])) (.ref ae) emptyReq :=
      vr_empty (t_of (q6 _ _ upd_same)) (t_of (q6 _ _ (q5 _ _ (q4 _ _ (q3 _ _ (q2 _ _ upd_same)))))) (t_of (q6 _ _ (q5 _ _ (q4 _ _ (q3 _ _ upd_same))))) (t_of (q6 _ _ (q5 _ _ (q4 _ _ upd_same)))) (t_of (q6 _ _ (q5 _ _ upd_same)))
    generalize upd (upd (upd (upd (upd (upd H9 a1 (.tup [])) a2 (.tup [])) a3 (.tup [])) a4 (.tup [])) ae (.tup [.ref a1, .ref a2, .ref a3, .ref a4])) l (.lst [.ref t1, w2, w3, .ref ae]) = HA at qA hl v4
    have kA := keep_same qA
    have prA : Paired (VR K HA) [.ref t1, w2, w3, .ref ae] [r1, r2, r3, emptyReq] := .cons (v1'.keep kA) (.cons (v2'.keep kA) (.cons (v3.keep kA) (.cons v4 .nil)))
    have okA : ∀ x ∈ [r1, r2, r3, emptyReq], OkReq 6 x := fun x hx => by
      rcases List.mem_cons.mp hx with rfl | hx
      · exact o1.mono (by decide)
      rcases List.mem_cons.mp hx with rfl | hx
      · exact o2.mono (by decide)
      rcases List.mem_cons.mp hx with rfl | hx
      · exact o3
      rw [List.mem_singleton.mp hx]
      exact okReq_empty
    have mA := m9.keep kA
    have dA := d9.same qA
    -- signs
    refine ⟨_, rfl, _, rfl, .ref mt, l, m, 6, _, _, rfl, mA, hl, prA, okA, (show 4 ≤ 10 by decide), fun sp HB rows sB mat sg => ?_⟩
    have prB : Paired (VR K HB) [.ref t1, w2, w3, .ref ae] [r1, r2, r3, emptyReq] := L2.Paired.mapP prA fun _ _ z => z.keep (keep_same sB)
    have lB := sB _ _ hl
    refine ⟨_, rfl, rfl, false, rfl, iteF ?_⟩
    refine ⟨_, rfl, _, rfl, l, sp, m, 6, _, _, rows, rfl, lB, prB, okA, (show 4 ≤ 10 by decide), mat, sg, true, rfl, iteF ?_⟩
    -- the empty request
    refine ⟨3, rfl, by decide, by decide, ?_⟩
    refine for_range (fun i σ H' => ∃ y3 y10, σ = [some (.ref a), some (.ref d), some (.int z), y3, some (.ref mt), some (.ref t1), some w2, some w3, some (.ref l), some (.ref sp), y10] ∧ H' = HB) ⟨_, _, rfl, rfl⟩ ?_ ?_
    · rintro i σ H' hi ⟨y3, y10, rfl, rfl⟩
      have hi3 : i < 3 := hi
      obtain ⟨x, hx⟩ : ∃ x, [r1, r2, r3, emptyReq][i]? = some x := ⟨_, List.getElem?_eq_getElem (show i < 4 by omega)⟩
      have ox := okA x (List.mem_of_getElem? hx)
      obtain ⟨as, has, ps⟩ := mat
      obtain ⟨b, row, sg3, hb, hrow, hs3, ht⟩ := sg_at (i := 3) ps sg (x := emptyReq) rfl hx
      obtain ⟨vx, hvx, rx⟩ := paired_get prB hx
      have r4 : VR K H' (.ref ae) emptyReq := v4.keep (keep_same sB)
      refine ⟨_, rfl, sp, _, 3, .ref b, rfl, rfl, l_of has, atI_nat (j := 3) (by rw [List.getElem?_map, hb]; rfl), _, rfl, b, _, _, .int sg3, rfl, rfl, l_of hrow, at0 (by rw [List.getElem?_map, hs3]; rfl), ?_⟩
      refine ⟨_, rfl, _, rfl, l, _, _, vx, rfl, rfl, l_of lB, at0 hvx, _, rfl, l, _, 3, .ref ae, rfl, rfl, l_of lB, atI_nat (j := 3) rfl, ?_⟩
      refine ⟨dR x, dR emptyReq, rx.dp, r4.dp, (flat_dR ox).shaped (by decide), (flat_dR (okReq_empty (N := 6))).shaped (by decide), .inr ⟨_, rfl, _, rfl, rfl, _, rfl, ite2 (fun c => ?_) (fun c => ?_)⟩⟩
      · exfalso
        have c1 : (!decide (V.int sg3 = V.int (-(if (!PyData.eqv (dR x) (dR emptyReq)) = true then 1 else 0)))) = true := c
        have e := tri_empty ox ht
        have e2 : sg3 = -(if (!PyData.eqv (dR x) (dR emptyReq)) = true then 1 else 0) := by
          rw [e]
          by_cases ex : x = emptyReq
          · rw [if_pos ex, (eqv_dR ox (okReq_empty (N := 6))).mpr ex]
            rfl
          · have ne : PyData.eqv (dR x) (dR emptyReq) = false := by
              cases qq : PyData.eqv (dR x) (dR emptyReq) with
              | false => rfl
              | true => exact absurd ((eqv_dR ox (okReq_empty (N := 6))).mp qq) ex
            rw [if_neg ex, ne]
            rfl
        rw [← e2, decide_eq_true rfl] at c1
        cases c1
      · exact ⟨_, _, rfl, rfl⟩
    · rintro σ H' ⟨y3, y10, rfl, rfl⟩
      -- falls
      refine ⟨_, rfl, _, rfl, _, rfl, d, _, rfl, dA.same sB, (show (0 : Int) < 3 by decide), fun k HC k0 k1 eC => ?_⟩
      have nld : l ≠ d := by
        intro e
        obtain ⟨ds, hds⟩ := dA
        rw [← e, hl] at hds
        cases ds with
        | nil => cases hds
        | cons n r => cases hds
      obtain ⟨j, rfl, hj⟩ : ∃ j : Nat, k = (j : Int) ∧ j < 3 := ⟨k.toNat, by omega, by omega⟩
      obtain ⟨x, hx⟩ : ∃ x, [r1, r2, r3, emptyReq][j]? = some x := ⟨_, List.getElem?_eq_getElem (show j < 4 by omega)⟩
      obtain ⟨vx, hvx, rx⟩ := paired_get prB hx
      have kC := Ext.keep (dA.same sB) eC
      refine ⟨l, _, _, vx, rfl, rfl, l_of (eC.same l _ nld lB), atI_nat hvx, ?_⟩
      exact ⟨.ref mt, vx, m, 6, x, rfl, (mA.keep (keep_same sB)).keep kC, rx.keep kC, okA x (List.mem_of_getElem? hx), by decide, q⟩
end
end K9W
namespace K9W
open PySem PySem.Spec PyProof.Rows L2
/-! ### what the top has written -/
theorem fnE_mk {K : PySem.W.Frag} {h : Heap} {mg : PySem.Str → Option Value} {x : PySem.Str} {i : Nat} {ps : List PySem.Str} {f : Addr} {oc : Value} {od an : Option Addr} {osl : Array (Option Value)} {kV doc pm cdv ct : Value} (X : K.In h) (G : h.Ns mainGlobals mg)
    (a : PySem.W.nsIn K mainGlobals x = some (some (.ref f))) (l : K.lookup f = some ⟨oc, od, .func (PySem.W.fnOf x x (defArgs (topS i)) (defBody (topS i)) (defScope (topS i)) .none kV doc pm an cdv ct), osl⟩)
    (c : PySem.W.codeIn K cdv x = true) (k : PySem.W.keepIn K (.ref f) = true)
    (hb : ∀ (kV doc pm : Value) (an : Option Addr) (cdv ct : Value) (us : List Value), us.length = ps.length → bindArgs (PySem.W.fnOf x x (defArgs (topS i)) (defBody (topS i)) (defScope (topS i)) .none kV doc pm an cdv ct) ⟨us, []⟩ = pure (ps.zip us)) : FnE K mg x i ps :=
  ⟨f, _, fun_mk l c k, (fun_mk l c k).binds hb, PySem.W.mg_of X G a⟩
theorem all_mk {l : PySem.W.OpenLaw} {w : World} {K : PySem.W.Frag} {h : Heap} {mg : PySem.Str → Option Value} {fa : Addr} (X : K.In h) (G : h.Ns mainGlobals mg) (hfa : mg "law" = some (.ref fa))
    {f2 : Addr} {od2 an2 : Option Addr} {sl2 : Array (Option Value)} {oc2 kV2 dc2 pm2 cd2 ct2 : Value}
    (a2 : PySem.W.nsIn K mainGlobals "word_number" = some (some (.ref f2))) (l2 : K.lookup f2 = some ⟨oc2, od2, .func (PySem.W.fnOf "word_number" "word_number" (defArgs (topS 2)) (defBody (topS 2)) (defScope (topS 2)) .none kV2 dc2 pm2 an2 cd2 ct2), sl2⟩) (c2 : PySem.W.codeIn K cd2 "word_number" = true) (k2 : PySem.W.keepIn K (.ref f2) = true)
    {f3 : Addr} {od3 an3 : Option Addr} {sl3 : Array (Option Value)} {oc3 kV3 dc3 pm3 cd3 ct3 : Value}
    (a3 : PySem.W.nsIn K mainGlobals "stock_place" = some (some (.ref f3))) (l3 : K.lookup f3 = some ⟨oc3, od3, .func (PySem.W.fnOf "stock_place" "stock_place" (defArgs (topS 3)) (defBody (topS 3)) (defScope (topS 3)) .none kV3 dc3 pm3 an3 cd3 ct3), sl3⟩) (c3 : PySem.W.codeIn K cd3 "stock_place" = true) (k3 : PySem.W.keepIn K (.ref f3) = true)
    {f5 : Addr} {od5 an5 : Option Addr} {sl5 : Array (Option Value)} {oc5 kV5 dc5 pm5 cd5 ct5 : Value}
    (a5 : PySem.W.nsIn K mainGlobals "value_in" = some (some (.ref f5))) (l5 : K.lookup f5 = some ⟨oc5, od5, .func (PySem.W.fnOf "value_in" "value_in" (defArgs (topS 5)) (defBody (topS 5)) (defScope (topS 5)) .none kV5 dc5 pm5 an5 cd5 ct5), sl5⟩) (c5 : PySem.W.codeIn K cd5 "value_in" = true) (k5 : PySem.W.keepIn K (.ref f5) = true)
    {f6 : Addr} {od6 an6 : Option Addr} {sl6 : Array (Option Value)} {oc6 kV6 dc6 pm6 cd6 ct6 : Value}
    (a6 : PySem.W.nsIn K mainGlobals "both_fields" = some (some (.ref f6))) (l6 : K.lookup f6 = some ⟨oc6, od6, .func (PySem.W.fnOf "both_fields" "both_fields" (defArgs (topS 6)) (defBody (topS 6)) (defScope (topS 6)) .none kV6 dc6 pm6 an6 cd6 ct6), sl6⟩) (c6 : PySem.W.codeIn K cd6 "both_fields" = true) (k6 : PySem.W.keepIn K (.ref f6) = true)
    {f7 : Addr} {od7 an7 : Option Addr} {sl7 : Array (Option Value)} {oc7 kV7 dc7 pm7 cd7 ct7 : Value}
    (a7 : PySem.W.nsIn K mainGlobals "sign" = some (some (.ref f7))) (l7 : K.lookup f7 = some ⟨oc7, od7, .func (PySem.W.fnOf "sign" "sign" (defArgs (topS 7)) (defBody (topS 7)) (defScope (topS 7)) .none kV7 dc7 pm7 an7 cd7 ct7), sl7⟩) (c7 : PySem.W.codeIn K cd7 "sign" = true) (k7 : PySem.W.keepIn K (.ref f7) = true)
    {f8 : Addr} {od8 an8 : Option Addr} {sl8 : Array (Option Value)} {oc8 kV8 dc8 pm8 cd8 ct8 : Value}
    (a8 : PySem.W.nsIn K mainGlobals "compare_words" = some (some (.ref f8))) (l8 : K.lookup f8 = some ⟨oc8, od8, .func (PySem.W.fnOf "compare_words" "compare_words" (defArgs (topS 8)) (defBody (topS 8)) (defScope (topS 8)) .none kV8 dc8 pm8 an8 cd8 ct8), sl8⟩) (c8 : PySem.W.codeIn K cd8 "compare_words" = true) (k8 : PySem.W.keepIn K (.ref f8) = true)
    {f9 : Addr} {od9 an9 : Option Addr} {sl9 : Array (Option Value)} {oc9 kV9 dc9 pm9 cd9 ct9 : Value}
    (a9 : PySem.W.nsIn K mainGlobals "compare_parts" = some (some (.ref f9))) (l9 : K.lookup f9 = some ⟨oc9, od9, .func (PySem.W.fnOf "compare_parts" "compare_parts" (defArgs (topS 9)) (defBody (topS 9)) (defScope (topS 9)) .none kV9 dc9 pm9 an9 cd9 ct9), sl9⟩) (c9 : PySem.W.codeIn K cd9 "compare_parts" = true) (k9 : PySem.W.keepIn K (.ref f9) = true)
    {f10 : Addr} {od10 an10 : Option Addr} {sl10 : Array (Option Value)} {oc10 kV10 dc10 pm10 cd10 ct10 : Value}
    (a10 : PySem.W.nsIn K mainGlobals "compare_sets" = some (some (.ref f10))) (l10 : K.lookup f10 = some ⟨oc10, od10, .func (PySem.W.fnOf "compare_sets" "compare_sets" (defArgs (topS 10)) (defBody (topS 10)) (defScope (topS 10)) .none kV10 dc10 pm10 an10 cd10 ct10), sl10⟩) (c10 : PySem.W.codeIn K cd10 "compare_sets" = true) (k10 : PySem.W.keepIn K (.ref f10) = true)
    {f11 : Addr} {od11 an11 : Option Addr} {sl11 : Array (Option Value)} {oc11 kV11 dc11 pm11 cd11 ct11 : Value}
    (a11 : PySem.W.nsIn K mainGlobals "compare_numbers" = some (some (.ref f11))) (l11 : K.lookup f11 = some ⟨oc11, od11, .func (PySem.W.fnOf "compare_numbers" "compare_numbers" (defArgs (topS 11)) (defBody (topS 11)) (defScope (topS 11)) .none kV11 dc11 pm11 an11 cd11 ct11), sl11⟩) (c11 : PySem.W.codeIn K cd11 "compare_numbers" = true) (k11 : PySem.W.keepIn K (.ref f11) = true)
    {f12 : Addr} {od12 an12 : Option Addr} {sl12 : Array (Option Value)} {oc12 kV12 dc12 pm12 cd12 ct12 : Value}
    (a12 : PySem.W.nsIn K mainGlobals "compare_cell" = some (some (.ref f12))) (l12 : K.lookup f12 = some ⟨oc12, od12, .func (PySem.W.fnOf "compare_cell" "compare_cell" (defArgs (topS 12)) (defBody (topS 12)) (defScope (topS 12)) .none kV12 dc12 pm12 an12 cd12 ct12), sl12⟩) (c12 : PySem.W.codeIn K cd12 "compare_cell" = true) (k12 : PySem.W.keepIn K (.ref f12) = true)
    {f13 : Addr} {od13 an13 : Option Addr} {sl13 : Array (Option Value)} {oc13 kV13 dc13 pm13 cd13 ct13 : Value}
    (a13 : PySem.W.nsIn K mainGlobals "compare_requests" = some (some (.ref f13))) (l13 : K.lookup f13 = some ⟨oc13, od13, .func (PySem.W.fnOf "compare_requests" "compare_requests" (defArgs (topS 13)) (defBody (topS 13)) (defScope (topS 13)) .none kV13 dc13 pm13 an13 cd13 ct13), sl13⟩) (c13 : PySem.W.codeIn K cd13 "compare_requests" = true) (k13 : PySem.W.keepIn K (.ref f13) = true)
    {f15 : Addr} {od15 an15 : Option Addr} {sl15 : Array (Option Value)} {oc15 kV15 dc15 pm15 cd15 ct15 : Value}
    (a15 : PySem.W.nsIn K mainGlobals "_law_draws" = some (some (.ref f15))) (l15 : K.lookup f15 = some ⟨oc15, od15, .func (PySem.W.fnOf "_law_draws" "_law_draws" (defArgs (topS 15)) (defBody (topS 15)) (defScope (topS 15)) .none kV15 dc15 pm15 an15 cd15 ct15), sl15⟩) (c15 : PySem.W.codeIn K cd15 "_law_draws" = true) (k15 : PySem.W.keepIn K (.ref f15) = true)
    {f16 : Addr} {od16 an16 : Option Addr} {sl16 : Array (Option Value)} {oc16 kV16 dc16 pm16 cd16 ct16 : Value}
    (a16 : PySem.W.nsIn K mainGlobals "_law_take" = some (some (.ref f16))) (l16 : K.lookup f16 = some ⟨oc16, od16, .func (PySem.W.fnOf "_law_take" "_law_take" (defArgs (topS 16)) (defBody (topS 16)) (defScope (topS 16)) .none kV16 dc16 pm16 an16 cd16 ct16), sl16⟩) (c16 : PySem.W.codeIn K cd16 "_law_take" = true) (k16 : PySem.W.keepIn K (.ref f16) = true)
    {f17 : Addr} {od17 an17 : Option Addr} {sl17 : Array (Option Value)} {oc17 kV17 dc17 pm17 cd17 ct17 : Value}
    (a17 : PySem.W.nsIn K mainGlobals "_law_cell" = some (some (.ref f17))) (l17 : K.lookup f17 = some ⟨oc17, od17, .func (PySem.W.fnOf "_law_cell" "_law_cell" (defArgs (topS 17)) (defBody (topS 17)) (defScope (topS 17)) .none kV17 dc17 pm17 an17 cd17 ct17), sl17⟩) (c17 : PySem.W.codeIn K cd17 "_law_cell" = true) (k17 : PySem.W.keepIn K (.ref f17) = true)
    {f18 : Addr} {od18 an18 : Option Addr} {sl18 : Array (Option Value)} {oc18 kV18 dc18 pm18 cd18 ct18 : Value}
    (a18 : PySem.W.nsIn K mainGlobals "_law_word" = some (some (.ref f18))) (l18 : K.lookup f18 = some ⟨oc18, od18, .func (PySem.W.fnOf "_law_word" "_law_word" (defArgs (topS 18)) (defBody (topS 18)) (defScope (topS 18)) .none kV18 dc18 pm18 an18 cd18 ct18), sl18⟩) (c18 : PySem.W.codeIn K cd18 "_law_word" = true) (k18 : PySem.W.keepIn K (.ref f18) = true)
    {f19 : Addr} {od19 an19 : Option Addr} {sl19 : Array (Option Value)} {oc19 kV19 dc19 pm19 cd19 ct19 : Value}
    (a19 : PySem.W.nsIn K mainGlobals "_law_some_word" = some (some (.ref f19))) (l19 : K.lookup f19 = some ⟨oc19, od19, .func (PySem.W.fnOf "_law_some_word" "_law_some_word" (defArgs (topS 19)) (defBody (topS 19)) (defScope (topS 19)) .none kV19 dc19 pm19 an19 cd19 ct19), sl19⟩) (c19 : PySem.W.codeIn K cd19 "_law_some_word" = true) (k19 : PySem.W.keepIn K (.ref f19) = true)
    {f20 : Addr} {od20 an20 : Option Addr} {sl20 : Array (Option Value)} {oc20 kV20 dc20 pm20 cd20 ct20 : Value}
    (a20 : PySem.W.nsIn K mainGlobals "_law_is_integer" = some (some (.ref f20))) (l20 : K.lookup f20 = some ⟨oc20, od20, .func (PySem.W.fnOf "_law_is_integer" "_law_is_integer" (defArgs (topS 20)) (defBody (topS 20)) (defScope (topS 20)) .none kV20 dc20 pm20 an20 cd20 ct20), sl20⟩) (c20 : PySem.W.codeIn K cd20 "_law_is_integer" = true) (k20 : PySem.W.keepIn K (.ref f20) = true)
    {f21 : Addr} {od21 an21 : Option Addr} {sl21 : Array (Option Value)} {oc21 kV21 dc21 pm21 cd21 ct21 : Value}
    (a21 : PySem.W.nsIn K mainGlobals "_law_worth" = some (some (.ref f21))) (l21 : K.lookup f21 = some ⟨oc21, od21, .func (PySem.W.fnOf "_law_worth" "_law_worth" (defArgs (topS 21)) (defBody (topS 21)) (defScope (topS 21)) .none kV21 dc21 pm21 an21 cd21 ct21), sl21⟩) (c21 : PySem.W.codeIn K cd21 "_law_worth" = true) (k21 : PySem.W.keepIn K (.ref f21) = true)
    {f22 : Addr} {od22 an22 : Option Addr} {sl22 : Array (Option Value)} {oc22 kV22 dc22 pm22 cd22 ct22 : Value}
    (a22 : PySem.W.nsIn K mainGlobals "_law_section" = some (some (.ref f22))) (l22 : K.lookup f22 = some ⟨oc22, od22, .func (PySem.W.fnOf "_law_section" "_law_section" (defArgs (topS 22)) (defBody (topS 22)) (defScope (topS 22)) .none kV22 dc22 pm22 an22 cd22 ct22), sl22⟩) (c22 : PySem.W.codeIn K cd22 "_law_section" = true) (k22 : PySem.W.keepIn K (.ref f22) = true)
    {f23 : Addr} {od23 an23 : Option Addr} {sl23 : Array (Option Value)} {oc23 kV23 dc23 pm23 cd23 ct23 : Value}
    (a23 : PySem.W.nsIn K mainGlobals "_law_varied" = some (some (.ref f23))) (l23 : K.lookup f23 = some ⟨oc23, od23, .func (PySem.W.fnOf "_law_varied" "_law_varied" (defArgs (topS 23)) (defBody (topS 23)) (defScope (topS 23)) .none kV23 dc23 pm23 an23 cd23 ct23), sl23⟩) (c23 : PySem.W.codeIn K cd23 "_law_varied" = true) (k23 : PySem.W.keepIn K (.ref f23) = true)
    {f24 : Addr} {od24 an24 : Option Addr} {sl24 : Array (Option Value)} {oc24 kV24 dc24 pm24 cd24 ct24 : Value}
    (a24 : PySem.W.nsIn K mainGlobals "_law_other" = some (some (.ref f24))) (l24 : K.lookup f24 = some ⟨oc24, od24, .func (PySem.W.fnOf "_law_other" "_law_other" (defArgs (topS 24)) (defBody (topS 24)) (defScope (topS 24)) .none kV24 dc24 pm24 an24 cd24 ct24), sl24⟩) (c24 : PySem.W.codeIn K cd24 "_law_other" = true) (k24 : PySem.W.keepIn K (.ref f24) = true)
    {f25 : Addr} {od25 an25 : Option Addr} {sl25 : Array (Option Value)} {oc25 kV25 dc25 pm25 cd25 ct25 : Value}
    (a25 : PySem.W.nsIn K mainGlobals "_law_signs" = some (some (.ref f25))) (l25 : K.lookup f25 = some ⟨oc25, od25, .func (PySem.W.fnOf "_law_signs" "_law_signs" (defArgs (topS 25)) (defBody (topS 25)) (defScope (topS 25)) .none kV25 dc25 pm25 an25 cd25 ct25), sl25⟩) (c25 : PySem.W.codeIn K cd25 "_law_signs" = true) (k25 : PySem.W.keepIn K (.ref f25) = true)
    {f26 : Addr} {od26 an26 : Option Addr} {sl26 : Array (Option Value)} {oc26 kV26 dc26 pm26 cd26 ct26 : Value}
    (a26 : PySem.W.nsIn K mainGlobals "_law_ordered" = some (some (.ref f26))) (l26 : K.lookup f26 = some ⟨oc26, od26, .func (PySem.W.fnOf "_law_ordered" "_law_ordered" (defArgs (topS 26)) (defBody (topS 26)) (defScope (topS 26)) .none kV26 dc26 pm26 an26 cd26 ct26), sl26⟩) (c26 : PySem.W.codeIn K cd26 "_law_ordered" = true) (k26 : PySem.W.keepIn K (.ref f26) = true)
    {f27 : Addr} {od27 an27 : Option Addr} {sl27 : Array (Option Value)} {oc27 kV27 dc27 pm27 cd27 ct27 : Value}
    (a27 : PySem.W.nsIn K mainGlobals "_law_lesser" = some (some (.ref f27))) (l27 : K.lookup f27 = some ⟨oc27, od27, .func (PySem.W.fnOf "_law_lesser" "_law_lesser" (defArgs (topS 27)) (defBody (topS 27)) (defScope (topS 27)) .none kV27 dc27 pm27 an27 cd27 ct27), sl27⟩) (c27 : PySem.W.codeIn K cd27 "_law_lesser" = true) (k27 : PySem.W.keepIn K (.ref f27) = true)
    {f28 : Addr} {od28 an28 : Option Addr} {sl28 : Array (Option Value)} {oc28 kV28 dc28 pm28 cd28 ct28 : Value}
    (a28 : PySem.W.nsIn K mainGlobals "_law_lowered" = some (some (.ref f28))) (l28 : K.lookup f28 = some ⟨oc28, od28, .func (PySem.W.fnOf "_law_lowered" "_law_lowered" (defArgs (topS 28)) (defBody (topS 28)) (defScope (topS 28)) .none kV28 dc28 pm28 an28 cd28 ct28), sl28⟩) (c28 : PySem.W.codeIn K cd28 "_law_lowered" = true) (k28 : PySem.W.keepIn K (.ref f28) = true)
    {f29 : Addr} {od29 an29 : Option Addr} {sl29 : Array (Option Value)} {oc29 kV29 dc29 pm29 cd29 ct29 : Value}
    (a29 : PySem.W.nsIn K mainGlobals "_law_falls" = some (some (.ref f29))) (l29 : K.lookup f29 = some ⟨oc29, od29, .func (PySem.W.fnOf "_law_falls" "_law_falls" (defArgs (topS 29)) (defBody (topS 29)) (defScope (topS 29)) .none kV29 dc29 pm29 an29 cd29 ct29), sl29⟩) (c29 : PySem.W.codeIn K cd29 "_law_falls" = true) (k29 : PySem.W.keepIn K (.ref f29) = true)
    {f30 : Addr} {od30 an30 : Option Addr} {sl30 : Array (Option Value)} {oc30 kV30 dc30 pm30 cd30 ct30 : Value}
    (a30 : PySem.W.nsIn K mainGlobals "law" = some (some (.ref f30))) (l30 : K.lookup f30 = some ⟨oc30, od30, .func (PySem.W.fnOf "law" "law" (defArgs (topS 30)) (defBody (topS 30)) (defScope (topS 30)) .none kV30 dc30 pm30 an30 cd30 ct30), sl30⟩) (c30 : PySem.W.codeIn K cd30 "law" = true) (k30 : PySem.W.keepIn K (.ref f30) = true)
    {tL : Tok} (zL : PySem.W.nsIn K mainGlobals "LETTERS" = some (some (.str "abcdefghijklmnopqrstuvwxyz" tL)))
    (z0 : PySem.W.nsIn K mainGlobals "len" = some none)
    (z1 : PySem.W.nsIn K mainGlobals "int" = some none)
    (z2 : PySem.W.nsIn K mainGlobals "bool" = some none)
    (z3 : PySem.W.nsIn K mainGlobals "abs" = some none)
    (z4 : PySem.W.nsIn K mainGlobals "max" = some none)
    (z5 : PySem.W.nsIn K mainGlobals "range" = some none)
    (z6 : PySem.W.nsIn K mainGlobals "sorted" = some none)
    (z7 : PySem.W.nsIn K mainGlobals "set" = some none)
    (z8 : PySem.W.nsIn K mainGlobals "tuple" = some none)
    (z9 : PySem.W.nsIn K mainGlobals "list" = some none)
    (z10 : PySem.W.nsIn K mainGlobals "isinstance" = some none)
    : ∃ fd : FuncData, (∀ (s : Shared) (v : Value), BindsTo s fd ⟨[v], []⟩ [("_law_script", v)]) ∧ ∀ base : Heap, K.In base → base.Ns mainGlobals mg → FnOk l.prog w K mg base CX0 8 fa fd ["_law_script"] (spLaw K) := by
  have e := hfa.symm.trans (PySem.W.mg_of X G a30)
  cases e
  have F : Fun K "law" "law" (topS 30) fa _ := fun_mk l30 c30 k30
  have B : Binds K _ ["_law_script"] [] := F.binds (ps := ["_law_script"]) fun _ _ _ _ _ _ us hl => match us, hl with | [_], _ => rfl
  have T : Tx K mg := {
    letters := ⟨tL, PySem.W.mg_of X G zL⟩
    word_number := fnE_mk X G a2 l2 c2 k2 fun _ _ _ _ _ _ us hl => match us, hl with | [_], _ => rfl
    stock_place := fnE_mk X G a3 l3 c3 k3 fun _ _ _ _ _ _ us hl => match us, hl with | [_, _], _ => rfl
    value_in := fnE_mk X G a5 l5 c5 k5 fun _ _ _ _ _ _ us hl => match us, hl with | [_, _, _], _ => rfl
    both_fields := fnE_mk X G a6 l6 c6 k6 fun _ _ _ _ _ _ us hl => match us, hl with | [_, _], _ => rfl
    sign := fnE_mk X G a7 l7 c7 k7 fun _ _ _ _ _ _ us hl => match us, hl with | [_, _], _ => rfl
    compare_words := fnE_mk X G a8 l8 c8 k8 fun _ _ _ _ _ _ us hl => match us, hl with | [_, _, _], _ => rfl
    compare_parts := fnE_mk X G a9 l9 c9 k9 fun _ _ _ _ _ _ us hl => match us, hl with | [_, _, _], _ => rfl
    compare_sets := fnE_mk X G a10 l10 c10 k10 fun _ _ _ _ _ _ us hl => match us, hl with | [_, _, _], _ => rfl
    compare_numbers := fnE_mk X G a11 l11 c11 k11 fun _ _ _ _ _ _ us hl => match us, hl with | [_, _], _ => rfl
    compare_cell := fnE_mk X G a12 l12 c12 k12 fun _ _ _ _ _ _ us hl => match us, hl with | [_, _, _, _], _ => rfl
    compare_requests := fnE_mk X G a13 l13 c13 k13 fun _ _ _ _ _ _ us hl => match us, hl with | [_, _, _], _ => rfl
    law_draws := fnE_mk X G a15 l15 c15 k15 fun _ _ _ _ _ _ us hl => match us, hl with | [_, _], _ => rfl
    law_take := fnE_mk X G a16 l16 c16 k16 fun _ _ _ _ _ _ us hl => match us, hl with | [_, _], _ => rfl
    law_cell := fnE_mk X G a17 l17 c17 k17 fun _ _ _ _ _ _ us hl => match us, hl with | [_, _], _ => rfl
    law_word := fnE_mk X G a18 l18 c18 k18 fun _ _ _ _ _ _ us hl => match us, hl with | [_], _ => rfl
    law_some_word := fnE_mk X G a19 l19 c19 k19 fun _ _ _ _ _ _ us hl => match us, hl with | [_], _ => rfl
    law_is_integer := fnE_mk X G a20 l20 c20 k20 fun _ _ _ _ _ _ us hl => match us, hl with | [_], _ => rfl
    law_worth := fnE_mk X G a21 l21 c21 k21 fun _ _ _ _ _ _ us hl => match us, hl with | [_, _, _], _ => rfl
    law_section := fnE_mk X G a22 l22 c22 k22 fun _ _ _ _ _ _ us hl => match us, hl with | [_, _, _, _], _ => rfl
    law_varied := fnE_mk X G a23 l23 c23 k23 fun _ _ _ _ _ _ us hl => match us, hl with | [_, _, _, _], _ => rfl
    law_other := fnE_mk X G a24 l24 c24 k24 fun _ _ _ _ _ _ us hl => match us, hl with | [_, _, _], _ => rfl
    law_signs := fnE_mk X G a25 l25 c25 k25 fun _ _ _ _ _ _ us hl => match us, hl with | [_, _], _ => rfl
    law_ordered := fnE_mk X G a26 l26 c26 k26 fun _ _ _ _ _ _ us hl => match us, hl with | [_, _], _ => rfl
    law_lesser := fnE_mk X G a27 l27 c27 k27 fun _ _ _ _ _ _ us hl => match us, hl with | [_, _], _ => rfl
    law_lowered := fnE_mk X G a28 l28 c28 k28 fun _ _ _ _ _ _ us hl => match us, hl with | [_, _, _], _ => rfl
    law_falls := fnE_mk X G a29 l29 c29 k29 fun _ _ _ _ _ _ us hl => match us, hl with | [_, _], _ => rfl
    bLen := PySem.W.mg_none_of X G z0
    bInt := PySem.W.mg_none_of X G z1
    bBool := PySem.W.mg_none_of X G z2
    bAbs := PySem.W.mg_none_of X G z3
    bMax := PySem.W.mg_none_of X G z4
    bRange := PySem.W.mg_none_of X G z5
    bSorted := PySem.W.mg_none_of X G z6
    bSet := PySem.W.mg_none_of X G z7
    bTuple := PySem.W.mg_none_of X G z8
    bList := PySem.W.mg_none_of X G z9
    bIsi := PySem.W.mg_none_of X G z10
  }
  exact ⟨_, fun s v => .of_eq rfl, fun base _ _ => ok_law T ⟨F, B, hfa⟩⟩
end K9W
open PySem PySem.W PyProof.Rows
set_option maxHeartbeats 0
theorem PySem.Challenge.cw_whomaywhat_k09_whole_order_of_requests_holds : PySem.Challenge.rw_whomaywhat_k09_whole_order_of_requests.Holds := by
  w_on; o_law; k_head; (case hw => w_witness2)
  k_fill
  refine L2.walk_ofK (l := PySem.Challenge.rw_whomaywhat_k09_whole_order_of_requests) (n := 63) (k := 8) (x := "_law_script") (CX := L2.CX0) (sp := K9W.spLaw) rfl (by decide) rfl ⟨rfl, by decide, by decide⟩ (fun w h Y => PySem.W.kIn_of Y) ?F (fun _ _ a ns hl _ hS => ⟨a, ns, rfl, hS, hl, fun _ => rfl⟩) (fun _ _ _ _ h => h)
  case F =>
    intro w mg fa h KX G hmg
    refine' K9W.all_mk KX G hmg ?a2 ?l2 ?c2 ?k2 ?a3 ?l3 ?c3 ?k3 ?a5 ?l5 ?c5 ?k5 ?a6 ?l6 ?c6 ?k6 ?a7 ?l7 ?c7 ?k7 ?a8 ?l8 ?c8 ?k8 ?a9 ?l9 ?c9 ?k9 ?a10 ?l10 ?c10 ?k10 ?a11 ?l11 ?c11 ?k11 ?a12 ?l12 ?c12 ?k12 ?a13 ?l13 ?c13 ?k13 ?a15 ?l15 ?c15 ?k15 ?a16 ?l16 ?c16 ?k16 ?a17 ?l17 ?c17 ?k17 ?a18 ?l18 ?c18 ?k18 ?a19 ?l19 ?c19 ?k19 ?a20 ?l20 ?c20 ?k20 ?a21 ?l21 ?c21 ?k21 ?a22 ?l22 ?c22 ?k22 ?a23 ?l23 ?c23 ?k23 ?a24 ?l24 ?c24 ?k24 ?a25 ?l25 ?c25 ?k25 ?a26 ?l26 ?c26 ?k26 ?a27 ?l27 ?c27 ?k27 ?a28 ?l28 ?c28 ?k28 ?a29 ?l29 ?c29 ?k29 ?a30 ?l30 ?c30 ?k30 ?zL ?z0 ?z1 ?z2 ?z3 ?z4 ?z5 ?z6 ?z7 ?z8 ?z9 ?z10
    (case a2 => k_is)
    (case l2 => k_is)
    (case c2 => k_is)
    (case k2 => k_is)
    (case a3 => k_is)
    (case l3 => k_is)
    (case c3 => k_is)
    (case k3 => k_is)
    (case a5 => k_is)
    (case l5 => k_is)
    (case c5 => k_is)
    (case k5 => k_is)
    (case a6 => k_is)
    (case l6 => k_is)
    (case c6 => k_is)
    (case k6 => k_is)
    (case a7 => k_is)
    (case l7 => k_is)
    (case c7 => k_is)
    (case k7 => k_is)
    (case a8 => k_is)
    (case l8 => k_is)
    (case c8 => k_is)
    (case k8 => k_is)
    (case a9 => k_is)
    (case l9 => k_is)
    (case c9 => k_is)
    (case k9 => k_is)
    (case a10 => k_is)
    (case l10 => k_is)
    (case c10 => k_is)
    (case k10 => k_is)
    (case a11 => k_is)
    (case l11 => k_is)
    (case c11 => k_is)
    (case k11 => k_is)
    (case a12 => k_is)
    (case l12 => k_is)
    (case c12 => k_is)
    (case k12 => k_is)
    (case a13 => k_is)
    (case l13 => k_is)
    (case c13 => k_is)
    (case k13 => k_is)
    (case a15 => k_is)
    (case l15 => k_is)
    (case c15 => k_is)
    (case k15 => k_is)
    (case a16 => k_is)
    (case l16 => k_is)
    (case c16 => k_is)
    (case k16 => k_is)
    (case a17 => k_is)
    (case l17 => k_is)
    (case c17 => k_is)
    (case k17 => k_is)
    (case a18 => k_is)
    (case l18 => k_is)
    (case c18 => k_is)
    (case k18 => k_is)
    (case a19 => k_is)
    (case l19 => k_is)
    (case c19 => k_is)
    (case k19 => k_is)
    (case a20 => k_is)
    (case l20 => k_is)
    (case c20 => k_is)
    (case k20 => k_is)
    (case a21 => k_is)
    (case l21 => k_is)
    (case c21 => k_is)
    (case k21 => k_is)
    (case a22 => k_is)
    (case l22 => k_is)
    (case c22 => k_is)
    (case k22 => k_is)
    (case a23 => k_is)
    (case l23 => k_is)
    (case c23 => k_is)
    (case k23 => k_is)
    (case a24 => k_is)
    (case l24 => k_is)
    (case c24 => k_is)
    (case k24 => k_is)
    (case a25 => k_is)
    (case l25 => k_is)
    (case c25 => k_is)
    (case k25 => k_is)
    (case a26 => k_is)
    (case l26 => k_is)
    (case c26 => k_is)
    (case k26 => k_is)
    (case a27 => k_is)
    (case l27 => k_is)
    (case c27 => k_is)
    (case k27 => k_is)
    (case a28 => k_is)
    (case l28 => k_is)
    (case c28 => k_is)
    (case k28 => k_is)
    (case a29 => k_is)
    (case l29 => k_is)
    (case c29 => k_is)
    (case k29 => k_is)
    (case a30 => k_is)
    (case l30 => k_is)
    (case c30 => k_is)
    (case k30 => k_is)
    (case zL => k_is)
    (case z0 => k_is)
    (case z1 => k_is)
    (case z2 => k_is)
    (case z3 => k_is)
    (case z4 => k_is)
    (case z5 => k_is)
    (case z6 => k_is)
    (case z7 => k_is)
    (case z8 => k_is)
    (case z9 => k_is)
    (case z10 => k_is)
