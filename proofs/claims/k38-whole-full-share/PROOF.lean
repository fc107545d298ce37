import PyProof.Rows.All
import Wide.All
import OpenK.AllK
import Wide.FinOn
import KE.KStateDown
import Lean
import HandS.ForMost
import HandS.ForExc
import HandS.Defaults
import HandS.Codes
import HandS.ClsMeth
import HandS.HeadHook1
import HandS.HeadHook2
import HandS.Head0
import HandS.Head1
import HandS.Head2
import HandS.HeadEnd
import HandS.IsInst
import HandS.SortInts
import HandS.SortRule
import HandS.NoneIn
import PySem.Challenge.RW_wornpages_k38_whole_full_share
set_option Elab.async false
set_option linter.all false
set_option maxRecDepth 100000
namespace Wp
def up {α : Type} (f : Nat → α) (a : Nat) (v : α) : Nat → α := fun x => if x = a then v else f x
theorem up_same {α : Type} {f : Nat → α} {a : Nat} {v : α} : up f a v a = v := if_pos rfl
theorem up_ne {α : Type} {f : Nat → α} {a x : Nat} {v : α} (h : x ≠ a) : up f a v x = f x := if_neg h
theorem up_at {α : Type} {f : Nat → α} {a x : Nat} {v : α} : up f a v x = if x = a then v else f x := rfl
def cnt : Nat → (Nat → Bool) → Nat
  | 0, _ => 0
  | n + 1, p => cnt n p + (if p n then 1 else 0)
def sm : Nat → (Nat → Nat) → Nat
  | 0, _ => 0
  | n + 1, f => sm n f + f n
theorem cnt_congr : ∀ {n : Nat} {p q : Nat → Bool}, (∀ i, i < n → p i = q i) → cnt n p = cnt n q
  | 0, _, _, _ => rfl
  | n + 1, p, q, h => by
    show cnt n p + _ = cnt n q + _
    rw [cnt_congr (n := n) fun i hi => h i (Nat.lt_succ_of_lt hi), h n (Nat.lt_succ_self n)]
theorem sm_congr : ∀ {n : Nat} {p q : Nat → Nat}, (∀ i, i < n → p i = q i) → sm n p = sm n q
  | 0, _, _, _ => rfl
  | n + 1, p, q, h => by
    show sm n p + _ = sm n q + _
    rw [sm_congr (n := n) fun i hi => h i (Nat.lt_succ_of_lt hi), h n (Nat.lt_succ_self n)]
theorem cnt_le : ∀ {n : Nat} {p : Nat → Bool}, cnt n p ≤ n
  | 0, _ => Nat.le_refl _
  | n + 1, p => by
    have := cnt_le (n := n) (p := p)
    show cnt n p + _ ≤ n + 1
    split <;> omega
theorem cnt_more : ∀ {n : Nat} {p q : Nat → Bool} {a : Nat}, a < n → p a = false → q a = true → (∀ i, i ≠ a → q i = p i) → cnt n q = cnt n p + 1
  | 0, _, _, _, h, _, _, _ => by omega
  | n + 1, p, q, a, h, h1, h2, h3 => by
    show cnt n q + _ = cnt n p + _ + 1
    by_cases e : a = n
    · subst e
      rw [cnt_congr (n := a) (p := q) (q := p) fun i hi => h3 i (by omega), h1, h2]
      simp
    · rw [cnt_more (n := n) (a := a) (by omega) h1 h2 h3, h3 n (fun z => e z.symm)]
      omega
theorem cnt_pos {n : Nat} {p : Nat → Bool} {a : Nat} (h : a < n) (hp : p a = true) : 0 < cnt n p := by
  induction n with
  | zero => omega
  | succ n ih =>
    show 0 < cnt n p + _
    by_cases e : a = n
    · subst e
      rw [hp]
      simp
    · have := ih (by omega)
      omega
theorem cnt_ex : ∀ {n : Nat} {p : Nat → Bool}, 0 < cnt n p → ∃ a, a < n ∧ p a = true
  | 0, _, h => by cases h
  | n + 1, p, h => by
    have h : 0 < cnt n p + (if p n then 1 else 0) := h
    by_cases e : p n = true
    · exact ⟨n, Nat.lt_succ_self n, e⟩
    · rw [if_neg e] at h
      obtain ⟨a, h1, h2⟩ := cnt_ex (n := n) (p := p) (by omega)
      exact ⟨a, by omega, h2⟩
theorem cnt_zero {n : Nat} {p : Nat → Bool} (h : ∀ i, i < n → p i = false) : cnt n p = 0 := by
  cases e : cnt n p with
  | zero => rfl
  | succ k =>
    obtain ⟨a, h1, h2⟩ := cnt_ex (n := n) (p := p) (by omega)
    rw [h a h1] at h2
    cases h2
theorem cnt_zero_of {n : Nat} {p : Nat → Bool} (h : cnt n p = 0) {i : Nat} (hi : i < n) : p i = false := by
  cases e : p i with
  | false => rfl
  | true =>
    have := cnt_pos hi e
    omega
theorem cnt_all : ∀ {n : Nat} {p : Nat → Bool}, (∀ i, i < n → p i = true) → cnt n p = n
  | 0, _, _ => rfl
  | n + 1, p, h => by
    show cnt n p + _ = n + 1
    rw [cnt_all (n := n) fun i hi => h i (by omega), h n (by omega)]
    simp
theorem cnt_mono : ∀ {n : Nat} {p q : Nat → Bool}, (∀ i, i < n → p i = true → q i = true) → cnt n p ≤ cnt n q
  | 0, _, _, _ => Nat.le_refl _
  | n + 1, p, q, h => by
    have := cnt_mono (n := n) (p := p) (q := q) fun i hi => h i (by omega)
    show cnt n p + _ ≤ cnt n q + _
    have h2 := h n (by omega)
    by_cases e : p n = true
    · rw [if_pos e, if_pos (h2 e)]
      omega
    · rw [if_neg e]
      omega
theorem sm_up : ∀ {n : Nat} {f : Nat → Nat} {a v : Nat}, a < n → sm n (up f a v) + f a = sm n f + v
  | 0, _, _, _, h => by omega
  | n + 1, f, a, v, h => by
    show sm n (up f a v) + up f a v n + f a = sm n f + f n + v
    by_cases e : a = n
    · subst e
      rw [up_same, sm_congr (n := a) (p := up f a v) (q := f) fun i hi => up_ne (by omega)]
      omega
    · rw [up_ne (fun z => e z.symm)]
      have := sm_up (n := n) (f := f) (a := a) (v := v) (by omega)
      omega
theorem pg_div {b i P : Nat} (h : i < P) : (b * P + i) / P = b := by
  rw [Nat.mul_comm, Nat.mul_add_div (by omega), Nat.div_eq_of_lt h]
  rfl
theorem pg_mod {b i P : Nat} (h : i < P) : (b * P + i) % P = i := by
  rw [Nat.mul_comm, Nat.mul_add_mod, Nat.mod_eq_of_lt h]
theorem pg_eq (p P : Nat) : p / P * P + p % P = p := by
  rw [Nat.mul_comm]
  exact Nat.div_add_mod p P
theorem pg_lt {b i B P : Nat} (hb : b < B) (hi : i < P) : b * P + i < B * P := by
  have h : (b + 1) * P ≤ B * P := Nat.mul_le_mul_right P hb
  rw [Nat.succ_mul] at h
  omega
theorem pg_blk {p B P : Nat} (h : p < B * P) : p / P < B := Nat.div_lt_of_lt_mul (by rw [Nat.mul_comm]; exact h)
theorem pg_off {p P : Nat} (h : 0 < P) : p % P < P := Nat.mod_lt _ h
theorem pg_inj {b c i j P : Nat} (hi : i < P) (hj : j < P) (e : b * P + i = c * P + j) : b = c ∧ i = j := by
  have h1 := pg_div (b := b) hi
  have h2 := pg_div (b := c) hj
  have h3 := pg_mod (b := b) hi
  have h4 := pg_mod (b := c) hj
  rw [e] at h1 h3
  exact ⟨h1.symm.trans h2, h3.symm.trans h4⟩
structure MS where
  whr : Nat → Option Nat
  names : Nat → Option Nat
  live : Nat → Nat
  filled : Nat → Nat
  born : Nat → Int
  stamp : Int
  stuff : Nat → Option (Nat × Int)
  tried : Nat → Nat
  clr : Nat → Nat
structure Good (B P : Nat) (S : MS) : Prop where
  pos : 0 < P
  nm : ∀ p n, p < B * P → S.names p = some n → n < 65 ∧ S.whr n = some p
  wh : ∀ n p, S.whr n = some p → n < 65 ∧ p < B * P ∧ S.names p = some n
  fl : ∀ b, b < B → S.filled b ≤ P
  lv : ∀ b, b < B → S.live b = cnt P fun i => (S.names (b * P + i)).isSome
  st : ∀ b i, b < B → i < P → ((S.stuff (b * P + i)).isSome = true ↔ i < S.filled b)
  ns : ∀ b i, b < B → i < P → (S.names (b * P + i)).isSome = true → i < S.filled b
  one : ∀ b c, b < B → c < B → 0 < S.filled b → S.filled b < P → 0 < S.filled c → S.filled c < P → b = c
  tot : sm B S.live = cnt 65 fun n => (S.whr n).isSome
def forget (P : Nat) (S : MS) (n : Nat) : MS := match S.whr n with
  | none => S
  | some q => { S with whr := up S.whr n none, names := up S.names q none, live := up S.live (q / P) (S.live (q / P) - 1) }
/-- the book's note behind its forget: page i of block b -/
def note1 (P : Nat) (S : MS) (b n : Nat) (p : Nat) : MS :=
  { S with born := if S.filled b = 0 then up S.born b S.stamp else S.born, filled := up S.filled b (S.filled b + 1), live := up S.live b (S.live b + 1),
           names := up S.names p (some n), whr := up S.whr n (some p), stamp := S.stamp + 1 }
def note (P : Nat) (S : MS) (p n : Nat) : MS := note1 P (forget P S n) (p / P) n p
def chipPut (P : Nat) (S : MS) (p t : Nat) (z : Int) : MS := { S with stuff := up S.stuff p (some (t, z)), tried := up S.tried (p / P) (S.tried (p / P) + 1) }
def put (P : Nat) (S : MS) (b n t : Nat) (z : Int) : MS := note P (chipPut P S (b * P + S.filled b) t z) (b * P + S.filled b) n
def chipWipe (P : Nat) (S : MS) (b : Nat) : MS := { S with stuff := fun p => if p / P = b then none else S.stuff p, tried := up S.tried b (S.tried b + 1), clr := up S.clr b (S.clr b + 1) }
def emptied (S : MS) (b : Nat) : MS := { S with filled := up S.filled b 0, born := up S.born b 0 }
def wipeM (P : Nat) (S : MS) (b : Nat) : MS := emptied (chipWipe P S b) b
def content (S : MS) (n : Nat) : Option Int := (S.whr n).bind fun p => (S.stuff p).map (·.2)
def nfree (B : Nat) (S : MS) : Nat := cnt B fun b => S.filled b == 0
def nname (S : MS) : Nat := cnt 65 fun n => (S.whr n).isSome
section
variable {B P : Nat} {S : MS}
theorem forget_filled (n : Nat) : (forget P S n).filled = S.filled := by unfold forget; split <;> rfl
theorem forget_stuff (n : Nat) : (forget P S n).stuff = S.stuff := by unfold forget; split <;> rfl
theorem forget_born (n : Nat) : (forget P S n).born = S.born := by unfold forget; split <;> rfl
theorem forget_stamp (n : Nat) : (forget P S n).stamp = S.stamp := by unfold forget; split <;> rfl
theorem forget_tried (n : Nat) : (forget P S n).tried = S.tried := by unfold forget; split <;> rfl
theorem forget_clr (n : Nat) : (forget P S n).clr = S.clr := by unfold forget; split <;> rfl
theorem forget_whr (n m : Nat) : (forget P S n).whr m = if m = n then none else S.whr m := by
  unfold forget
  split
  · rename_i h
    by_cases e : m = n
    · rw [if_pos e, e, h]
    · rw [if_neg e]
  · rfl
theorem forget_names (G : Good B P S) (n p : Nat) (hp : p < B * P) : (forget P S n).names p = if S.names p = some n then none else S.names p := by
  unfold forget
  split
  · rename_i h
    by_cases e : S.names p = some n
    · have := (G.nm p n hp e).2
      rw [h] at this
      cases this
    · rw [if_neg e]
  · rename_i q h
    obtain ⟨h1, h2, h3⟩ := G.wh n q h
    show up S.names q none p = _
    by_cases e : p = q
    · subst e
      rw [up_same, if_pos h3]
    · rw [up_ne e, if_neg fun z => e (by have := (G.nm p n hp z).2; rw [h] at this; exact (Option.some.inj this).symm)]
theorem forget_good (G : Good B P S) (n : Nat) : Good B P (forget P S n) := by
  cases h : S.whr n with
  | none =>
    have e : forget P S n = S := by unfold forget; rw [h]
    rw [e]
    exact G
  | some q =>
    obtain ⟨h1, h2, h3⟩ := G.wh n q h
    have e : forget P S n = { S with whr := up S.whr n none, names := up S.names q none, live := up S.live (q / P) (S.live (q / P) - 1) } := by unfold forget; rw [h]
    have hb := pg_blk h2
    have hi := pg_off (p := q) G.pos
    have hq := pg_eq q P
    have hc : cnt P (fun i => (S.names (q / P * P + i)).isSome) = cnt P (fun i => (up S.names q none (q / P * P + i)).isSome) + 1 := by
      refine cnt_more (a := q % P) hi ?_ ?_ fun i hne => ?_
      · show (up S.names q none (q / P * P + q % P)).isSome = false
        rw [hq, up_same]
        rfl
      · show (S.names (q / P * P + q % P)).isSome = true
        rw [hq, h3]
        rfl
      · show (S.names (q / P * P + i)).isSome = (up S.names q none (q / P * P + i)).isSome
        rw [up_ne]
        intro z
        have : q / P * P + i = q / P * P + q % P := by omega
        omega
    have hl := G.lv _ hb
    rw [e]
    refine ⟨G.pos, fun p m hp hm => ?_, fun m p hm => ?_, G.fl, fun b hb' => ?_, G.st, fun b i hb' hi' hs => ?_, G.one, ?_⟩
    · have hm : up S.names q none p = some m := hm
      by_cases ep : p = q
      · rw [ep, up_same] at hm
        cases hm
      · rw [up_ne ep] at hm
        obtain ⟨a, b⟩ := G.nm p m hp hm
        refine ⟨a, ?_⟩
        show up S.whr n none m = some p
        rw [up_ne, b]
        intro z
        rw [z, h] at b
        exact ep (Option.some.inj b).symm
    · have hm : up S.whr n none m = some p := hm
      by_cases em : m = n
      · rw [em, up_same] at hm
        cases hm
      · rw [up_ne em] at hm
        obtain ⟨a, b, c⟩ := G.wh m p hm
        refine ⟨a, b, ?_⟩
        show up S.names q none p = some m
        rw [up_ne, c]
        intro z
        rw [z, h3] at c
        exact em (Option.some.inj c).symm
    · show up S.live (q / P) (S.live (q / P) - 1) b = cnt P fun i => (up S.names q none (b * P + i)).isSome
      by_cases eb : b = q / P
      · rw [eb, up_same, hl, hc]
        rfl
      · rw [up_ne eb, G.lv b hb']
        refine cnt_congr fun i hi' => ?_
        rw [up_ne]
        intro z
        rw [← hq] at z
        exact eb (pg_inj hi' hi z).1
    · have hs : (up S.names q none (b * P + i)).isSome = true := hs
      by_cases ep : b * P + i = q
      · rw [ep, up_same] at hs
        cases hs
      · rw [up_ne ep] at hs
        exact G.ns b i hb' hi' hs
    · have t1 := sm_up (f := S.live) (v := S.live (q / P) - 1) hb
      have t2 := cnt_more (n := 65) (p := fun m => (up S.whr n none m).isSome) (q := fun m => (S.whr m).isSome) h1 (by show (up S.whr n none n).isSome = false; rw [up_same]; rfl) (by show (S.whr n).isSome = true; rw [h]; rfl)
        fun i hne => by show (S.whr i).isSome = (up S.whr n none i).isSome; rw [up_ne hne]
      have t3 := G.tot
      show sm B (up S.live (q / P) (S.live (q / P) - 1)) = cnt 65 fun m => (up S.whr n none m).isSome
      omega
theorem content_forget (n m : Nat) : content (forget P S n) m = if m = n then none else content S m := by
  unfold content
  rw [forget_whr, forget_stuff]
  split <;> rfl
theorem nname_forget (n : Nat) : nname (forget P S n) ≤ nname S := by
  refine cnt_mono fun i _ h => ?_
  have h : ((forget P S n).whr i).isSome = true := h
  rw [forget_whr] at h
  show (S.whr i).isSome = true
  split at h
  · cases h
  · exact h
theorem put_eq (b n t : Nat) (z : Int) (h : S.filled b < P) : put P S b n t z = note1 P (forget P (chipPut P S (b * P + S.filled b) t z) n) b n (b * P + S.filled b) := by
  unfold put note
  rw [pg_div h]
theorem put_filled (b n t : Nat) (z : Int) (h : S.filled b < P) : (put P S b n t z).filled = up S.filled b (S.filled b + 1) := by
  rw [put_eq b n t z h]
  show up (forget P _ n).filled b ((forget P _ n).filled b + 1) = _
  rw [forget_filled]
  rfl
theorem put_stuff (b n t : Nat) (z : Int) (h : S.filled b < P) : (put P S b n t z).stuff = up S.stuff (b * P + S.filled b) (some (t, z)) := by
  rw [put_eq b n t z h]
  show (forget P _ n).stuff = _
  rw [forget_stuff]
  rfl
theorem put_clr (b n t : Nat) (z : Int) (h : S.filled b < P) : (put P S b n t z).clr = S.clr := by
  rw [put_eq b n t z h]
  show (forget P _ n).clr = _
  rw [forget_clr]
  rfl
theorem put_stamp (b n t : Nat) (z : Int) (h : S.filled b < P) : (put P S b n t z).stamp = S.stamp + 1 := by
  rw [put_eq b n t z h]
  show (forget P _ n).stamp + 1 = _
  rw [forget_stamp]
  rfl
theorem put_whr (b n t : Nat) (z : Int) (h : S.filled b < P) (m : Nat) : (put P S b n t z).whr m = if m = n then some (b * P + S.filled b) else S.whr m := by
  rw [put_eq b n t z h]
  show up (forget P _ n).whr n _ m = _
  by_cases e : m = n
  · rw [if_pos e, e, up_same]
  · rw [if_neg e, up_ne e, forget_whr, if_neg e]
    rfl
/-- Good without what binds the clear pages to the filled ones -/
structure Good0 (B P : Nat) (S : MS) : Prop where
  pos : 0 < P
  nm : ∀ p n, p < B * P → S.names p = some n → n < 65 ∧ S.whr n = some p
  wh : ∀ n p, S.whr n = some p → n < 65 ∧ p < B * P ∧ S.names p = some n
  lv : ∀ b, b < B → S.live b = cnt P fun i => (S.names (b * P + i)).isSome
  tot : sm B S.live = cnt 65 fun n => (S.whr n).isSome
theorem Good.g0 (G : Good B P S) : Good0 B P S := ⟨G.pos, G.nm, G.wh, G.lv, G.tot⟩
theorem forget_chipPut (p t n : Nat) (z : Int) : forget P (chipPut P S p t z) n = chipPut P (forget P S n) p t z := by
  unfold forget chipPut
  dsimp only
  cases S.whr n <;> rfl
theorem put_eq2 (b n t : Nat) (z : Int) (h : S.filled b < P) : put P S b n t z = note1 P (chipPut P (forget P S n) (b * P + S.filled b) t z) b n (b * P + S.filled b) := by
  rw [put_eq b n t z h, forget_chipPut]
theorem put_names (G : Good B P S) (b n t : Nat) (z : Int) (h : S.filled b < P) (p : Nat) (hp : p < B * P) :
    (put P S b n t z).names p = if p = b * P + S.filled b then some n else if S.names p = some n then none else S.names p := by
  rw [put_eq2 b n t z h]
  show up (forget P S n).names _ (some n) p = _
  by_cases e : p = b * P + S.filled b
  · rw [if_pos e, e, up_same]
  · rw [if_neg e, up_ne e, forget_names G n p hp]
theorem put_good (G : Good B P S) {b n : Nat} (t : Nat) (z : Int) (hb : b < B) (h : S.filled b < P) (hn : n < 65) (ho : ∀ c, c < B → 0 < S.filled c → S.filled c < P → c = b) : Good B P (put P S b n t z) := by
  have F := forget_good G n
  have ff : (forget P S n).filled = S.filled := forget_filled n
  rw [put_eq2 b n t z h]
  -- the spot is free in the forgotten book
  have hsp : (forget P S n).names (b * P + S.filled b) = none := by
    cases e : (forget P S n).names (b * P + S.filled b) with
    | none => rfl
    | some m =>
      have := F.ns b (S.filled b) hb h (by rw [e]; rfl)
      rw [ff] at this
      omega
  have hwn : (forget P S n).whr n = none := by rw [forget_whr, if_pos rfl]
  have hpl := pg_lt hb h
  refine ⟨G.pos, fun p m hp hm => ?_, fun m p hm => ?_, fun c hc => ?_, fun c hc => ?_, fun c i hc hi => ?_, fun c i hc hi hs => ?_, fun c d hc hd c1 c2 d1 d2 => ?_, ?_⟩
  · have hm : up (forget P S n).names (b * P + S.filled b) (some n) p = some m := hm
    show m < 65 ∧ up (forget P S n).whr n (some (b * P + S.filled b)) m = some p
    by_cases e : p = b * P + S.filled b
    · rw [e, up_same] at hm
      have : n = m := Option.some.inj hm
      subst this
      exact ⟨hn, by rw [up_same, e]⟩
    · rw [up_ne e] at hm
      obtain ⟨a, c⟩ := F.nm p m hp hm
      refine ⟨a, ?_⟩
      rw [up_ne, c]
      intro q
      rw [q, hwn] at c
      cases c
  · have hm : up (forget P S n).whr n (some (b * P + S.filled b)) m = some p := hm
    show m < 65 ∧ p < B * P ∧ up (forget P S n).names (b * P + S.filled b) (some n) p = some m
    by_cases e : m = n
    · rw [e, up_same] at hm
      have : b * P + S.filled b = p := Option.some.inj hm
      subst this
      exact ⟨by omega, hpl, by rw [up_same, e]⟩
    · rw [up_ne e] at hm
      obtain ⟨a, c, d⟩ := F.wh m p hm
      refine ⟨a, c, ?_⟩
      rw [up_ne, d]
      intro q
      rw [q, hsp] at d
      cases d
  · show up (forget P S n).filled b ((forget P S n).filled b + 1) c ≤ P
    rw [ff]
    by_cases e : c = b
    · rw [e, up_same]
      omega
    · rw [up_ne e]
      exact G.fl c hc
  · show up (forget P S n).live b ((forget P S n).live b + 1) c = cnt P fun i => (up (forget P S n).names (b * P + S.filled b) (some n) (c * P + i)).isSome
    by_cases e : c = b
    · rw [e, up_same, F.lv b hb]
      refine (cnt_more (a := S.filled b) h ?_ ?_ fun i hne => ?_).symm
      · rw [hsp]
        rfl
      · show (up (forget P S n).names (b * P + S.filled b) (some n) (b * P + S.filled b)).isSome = true
        rw [up_same]
        rfl
      · show (up (forget P S n).names (b * P + S.filled b) (some n) (b * P + i)).isSome = ((forget P S n).names (b * P + i)).isSome
        rw [up_ne (by omega)]
    · rw [up_ne e, F.lv c hc]
      refine cnt_congr fun i hi => ?_
      rw [up_ne]
      exact fun q => e (pg_inj hi h q).1
  · show (up (forget P S n).stuff (b * P + S.filled b) (some (t, z)) (c * P + i)).isSome = true ↔ i < up (forget P S n).filled b ((forget P S n).filled b + 1) c
    rw [ff, forget_stuff]
    by_cases e : c = b
    · subst e
      rw [up_same]
      by_cases ei : i = S.filled c
      · rw [ei, up_same]
        simp
      · rw [up_ne (by omega), G.st c i hc hi]
        omega
    · rw [up_ne (fun q => e (pg_inj hi h q).1), up_ne e]
      exact G.st c i hc hi
  · have hs : (up (forget P S n).names (b * P + S.filled b) (some n) (c * P + i)).isSome = true := hs
    show i < up (forget P S n).filled b ((forget P S n).filled b + 1) c
    rw [ff]
    by_cases e : c = b
    · subst e
      rw [up_same]
      by_cases ei : i = S.filled c
      · omega
      · rw [up_ne (by omega)] at hs
        have := F.ns c i hc hi hs
        rw [ff] at this
        omega
    · rw [up_ne e]
      rw [up_ne (fun q => e (pg_inj hi h q).1)] at hs
      have := F.ns c i hc hi hs
      rw [ff] at this
      exact this
  · have c1 : 0 < up (forget P S n).filled b ((forget P S n).filled b + 1) c := c1
    have c2 : up (forget P S n).filled b ((forget P S n).filled b + 1) c < P := c2
    have d1 : 0 < up (forget P S n).filled b ((forget P S n).filled b + 1) d := d1
    have d2 : up (forget P S n).filled b ((forget P S n).filled b + 1) d < P := d2
    rw [ff] at c1 c2 d1 d2
    have k : ∀ x, x < B → 0 < up S.filled b (S.filled b + 1) x → up S.filled b (S.filled b + 1) x < P → x = b := fun x hx x1 x2 => by
      by_cases e : x = b
      · exact e
      · rw [up_ne e] at x1 x2
        exact ho x hx x1 x2
    rw [k c hc c1 c2, k d hd d1 d2]
  · show sm B (up (forget P S n).live b ((forget P S n).live b + 1)) = cnt 65 fun m => (up (forget P S n).whr n (some (b * P + S.filled b)) m).isSome
    have t1 := sm_up (f := (forget P S n).live) (v := (forget P S n).live b + 1) hb
    have t2 := cnt_more (n := 65) (p := fun m => ((forget P S n).whr m).isSome) (q := fun m => (up (forget P S n).whr n (some (b * P + S.filled b)) m).isSome) hn (by rw [hwn]; rfl) (by rw [up_same]; rfl)
      fun i hne => by rw [up_ne hne]
    have t3 := F.tot
    omega
theorem content_put (G : Good B P S) {b n : Nat} (t : Nat) (z : Int) (hb : b < B) (h : S.filled b < P) (m : Nat) : content (put P S b n t z) m = if m = n then some z else content S m := by
  unfold content
  rw [put_whr b n t z h, put_stuff b n t z h]
  by_cases e : m = n
  · rw [if_pos e, if_pos e]
    show (up S.stuff _ (some (t, z)) _).map (·.2) = some z
    rw [up_same]
    rfl
  · rw [if_neg e, if_neg e]
    cases q : S.whr m with
    | none => rfl
    | some p =>
      obtain ⟨_, h2, h3⟩ := G.wh m p q
      show (up S.stuff _ (some (t, z)) p).map (·.2) = (S.stuff p).map (·.2)
      rw [up_ne]
      intro z
      have := G.ns b (S.filled b) hb h (by rw [← z, h3]; rfl)
      omega
theorem nname_put {b n t : Nat} {z : Int} (h : S.filled b < P) : nname (put P S b n t z) = cnt 65 fun m => decide (m = n) || (S.whr m).isSome := by
  refine cnt_congr fun i _ => ?_
  rw [put_whr b n t z h]
  by_cases e : i = n
  · rw [if_pos e, decide_eq_true e]
    rfl
  · rw [if_neg e, decide_eq_false e]
    rfl
theorem nfree_put0 {b n t : Nat} {z : Int} (hb : b < B) (h : S.filled b < P) (h0 : S.filled b = 0) : nfree B (put P S b n t z) + 1 = nfree B S := by
  unfold nfree
  rw [put_filled b n t z h]
  refine (cnt_more (a := b) hb ?_ ?_ fun i hne => ?_).symm
  · show (up S.filled b (S.filled b + 1) b == 0) = false
    rw [up_same]
    rfl
  · show (S.filled b == 0) = true
    rw [h0]
    rfl
  · show (S.filled i == 0) = (up S.filled b (S.filled b + 1) i == 0)
    rw [up_ne hne]
theorem nfree_put1 {b n t : Nat} {z : Int} (h : S.filled b < P) (h0 : S.filled b ≠ 0) : nfree B (put P S b n t z) = nfree B S := by
  unfold nfree
  rw [put_filled b n t z h]
  refine cnt_congr fun i _ => ?_
  show (up S.filled b (S.filled b + 1) i == 0) = (S.filled i == 0)
  by_cases e : i = b
  · rw [e, up_same, beq_eq_false_iff_ne.mpr h0]
    rfl
  · rw [up_ne e]
theorem wipe_good (G : Good B P S) {b : Nat} (hb : b < B) (h : ∀ i, i < P → S.names (b * P + i) = none) : Good B P (wipeM P S b) := by
  refine ⟨G.pos, G.nm, G.wh, fun c hc => ?_, G.lv, fun c i hc hi => ?_, fun c i hc hi hs => ?_, fun c d hc hd c1 c2 d1 d2 => ?_, G.tot⟩
  · show up S.filled b 0 c ≤ P
    by_cases e : c = b
    · rw [e, up_same]
      omega
    · rw [up_ne e]
      exact G.fl c hc
  · show ((if (c * P + i) / P = b then none else S.stuff (c * P + i)) : Option (Nat × Int)).isSome = true ↔ i < up S.filled b 0 c
    rw [pg_div hi]
    by_cases e : c = b
    · rw [if_pos e, e, up_same]
      simp
    · rw [if_neg e, up_ne e]
      exact G.st c i hc hi
  · have hs : (S.names (c * P + i)).isSome = true := hs
    show i < up S.filled b 0 c
    by_cases e : c = b
    · rw [e, h i hi] at hs
      cases hs
    · rw [up_ne e]
      exact G.ns c i hc hi hs
  · have k : ∀ x, 0 < up S.filled b 0 x → up S.filled b 0 x = S.filled x := fun x x1 => by
      by_cases e : x = b
      · rw [e, up_same] at x1
        cases x1
      · rw [up_ne e]
    have c1 : 0 < up S.filled b 0 c := c1
    have c2 : up S.filled b 0 c < P := c2
    have d1 : 0 < up S.filled b 0 d := d1
    have d2 : up S.filled b 0 d < P := d2
    have ec := k c c1
    have ed := k d d1
    rw [ec] at c1 c2
    rw [ed] at d1 d2
    exact G.one c d hc hd c1 c2 d1 d2
theorem content_wipe (G : Good B P S) {b : Nat} (h : ∀ i, i < P → S.names (b * P + i) = none) (m : Nat) : content (wipeM P S b) m = content S m := by
  unfold content
  show (S.whr m).bind (fun p => ((if p / P = b then none else S.stuff p) : Option (Nat × Int)).map (·.2)) = _
  cases q : S.whr m with
  | none => rfl
  | some p =>
    obtain ⟨_, h2, h3⟩ := G.wh m p q
    show ((if p / P = b then none else S.stuff p) : Option (Nat × Int)).map (·.2) = (S.stuff p).map (·.2)
    rw [if_neg]
    intro z
    have := h (p % P) (pg_off G.pos)
    rw [← z, pg_eq, h3] at this
    cases this
theorem nfree_wipe {b : Nat} (hb : b < B) (h : S.filled b ≠ 0) : nfree B (wipeM P S b) = nfree B S + 1 := by
  unfold nfree
  refine cnt_more (a := b) hb ?_ ?_ fun i hne => ?_
  · exact beq_eq_false_iff_ne.mpr h
  · show (up S.filled b 0 b == 0) = true
    rw [up_same]
    rfl
  · show (up S.filled b 0 i == 0) = (S.filled i == 0)
    rw [up_ne hne]
theorem sm_full : ∀ {n : Nat} {f g : Nat → Nat} {P : Nat}, (∀ b, b < n → f b ≤ P) → (∀ b, b < n → g b = 0 ∨ f b = P) → n * P ≤ sm n f + cnt n (fun b => g b == 0) * P
  | 0, _, _, _, _, _ => by simp
  | n + 1, f, g, P, h1, h2 => by
    have ih := sm_full (n := n) (f := f) (g := g) (P := P) (fun b hb => h1 b (by omega)) fun b hb => h2 b (by omega)
    show (n + 1) * P ≤ sm n f + f n + (cnt n (fun b => g b == 0) + (if (g n == 0) = true then 1 else 0)) * P
    rw [Nat.succ_mul, Nat.add_mul]
    rcases h2 n (by omega) with e | e
    · rw [e, if_pos (by rfl)]
      omega
    · rw [e]
      omega
theorem some_option (G : Good B P S) (hp : ∀ c, c < B → ¬ (0 < S.filled c ∧ S.filled c < P)) (h : nname S + nfree B S * P < B * P) : ∃ b, b < B ∧ S.filled b = P ∧ S.live b < P := by
  refine Classical.byContradiction fun hc => ?_
  have hl : ∀ b, b < B → S.live b ≤ P := fun b hb => by
    rw [G.lv b hb]
    exact cnt_le
  have := sm_full (n := B) (f := S.live) (g := S.filled) (P := P) hl fun b hb => by
    by_cases e : S.filled b = 0
    · exact .inl e
    · refine .inr ?_
      have h1 := G.fl b hb
      have h2 : ¬ S.filled b < P := fun z => hp b hb ⟨by omega, z⟩
      have h3 : ¬ S.live b < P := fun z => hc ⟨b, hb, by omega, z⟩
      have h4 := hl b hb
      omega
  have t : sm B S.live = nname S := G.tot
  have u : nfree B S = cnt B (fun b => S.filled b == 0) := rfl
  rw [t, ← u] at this
  omega
/-- a sheet that is held reads something -/
theorem content_some (G : Good B P S) {n p : Nat} (h : S.whr n = some p) : ∃ t z, S.stuff p = some (t, z) ∧ content S n = some z := by
  obtain ⟨_, h2, h3⟩ := G.wh n p h
  have hb := pg_blk h2
  have hi := pg_off (p := p) G.pos
  have hs := G.ns (p / P) (p % P) hb hi (by rw [pg_eq, h3]; rfl)
  have := (G.st (p / P) (p % P) hb hi).mpr hs
  rw [pg_eq] at this
  cases e : S.stuff p with
  | none =>
    rw [e] at this
    cases this
  | some q =>
    refine ⟨q.1, q.2, rfl, ?_⟩
    unfold content
    rw [h]
    show (S.stuff p).map (·.2) = some q.2
    rw [e]
    rfl
theorem content_none {n : Nat} (h : S.whr n = none) : content S n = none := by
  unfold content
  rw [h]
  rfl
end
end Wp
namespace Wp
open PySem PySem.Spec PyProof.Rows L2
def top (i : Nat) : Stmt := PySem.Challenge.pw_wornpages_k38_whole_full_share.main.body.getD i (.Pass ⟨0, 0, 0, 0⟩)
abbrev sBook_init : Stmt := inClass (top 18) 0
abbrev sBook_mark : Stmt := inClass (top 18) 2
abbrev sBook_note : Stmt := inClass (top 18) 3
abbrev sBook_forget : Stmt := inClass (top 18) 4
abbrev sBook_emptied : Stmt := inClass (top 18) 5
abbrev sBook_live_pages : Stmt := inClass (top 18) 6
abbrev sBook_held : Stmt := inClass (top 18) 7
abbrev sPlain_init : Stmt := inClass (top 23) 0
abbrev sStore_init : Stmt := inClass (top 25) 0
abbrev sPlain_good : Stmt := inClass (top 23) 1
abbrev sPlain_free : Stmt := inClass (top 23) 2
abbrev sPlain_part : Stmt := inClass (top 23) 3
abbrev sPlain_spot : Stmt := inClass (top 23) 4
abbrev sPlain_ready : Stmt := inClass (top 23) 6
abbrev sPlain_set_down : Stmt := inClass (top 23) 8
abbrev sPlain_lay : Stmt := inClass (top 23) 9
abbrev sPlain_need_sheet : Stmt := inClass (top 23) 10
abbrev sPlain_write : Stmt := inClass (top 23) 11
abbrev sPlain_give_up : Stmt := inClass (top 23) 12
abbrev sPlain_read : Stmt := inClass (top 23) 13
abbrev sPlain_held : Stmt := inClass (top 23) 14
abbrev sStore_reserve : Stmt := inClass (top 25) 2
abbrev sStore_space : Stmt := inClass (top 25) 3
abbrev sStore_tally : Stmt := inClass (top 25) 4
abbrev sStore_full_ones : Stmt := inClass (top 25) 5
abbrev sStore_options : Stmt := inClass (top 25) 6
abbrev sStore_choice : Stmt := inClass (top 25) 8
abbrev sStore_value_for : Stmt := inClass (top 25) 9
abbrev sStore_moved : Stmt := inClass (top 25) 10
abbrev sStore_wiped : Stmt := inClass (top 25) 11
abbrev sStore_make_room : Stmt := inClass (top 25) 12
abbrev sStore_make_ready : Stmt := inClass (top 25) 13
abbrev sChip_init : Stmt := inClass (top 30) 0
abbrev sChip_need_page : Stmt := inClass (top 30) 1
abbrev sChip_need_block : Stmt := inClass (top 30) 2
abbrev sChip_need_power : Stmt := inClass (top 30) 3
abbrev sChip_need_good : Stmt := inClass (top 30) 4
abbrev sChip_goes_well : Stmt := inClass (top 30) 5
abbrev sChip_put : Stmt := inClass (top 30) 6
abbrev sChip_wipe : Stmt := inClass (top 30) 7
abbrev sChip_read : Stmt := inClass (top 30) 8
abbrev sChip_is_dark : Stmt := inClass (top 30) 11
abbrev sChip_cleared : Stmt := inClass (top 30) 12
abbrev sChip_failed : Stmt := inClass (top 30) 13
abbrev sRule_goes_ahead : Stmt := inClass (top 32) 0
abbrev sRule_choose : Stmt := inClass (top 32) 1
abbrev sFewest_goes_ahead : Stmt := inClass (top 33) 0
abbrev sEldest_goes_ahead : Stmt := inClass (top 34) 0
abbrev sWorth_goes_ahead : Stmt := inClass (top 35) 0
abbrev sTerms_init : Stmt := inClass (top 37) 0
abbrev sTerms_closed : Stmt := inClass (top 37) 1
abbrev smark_of : Stmt := top 15
abbrev sbits_of : Stmt := top 16
abbrev sis_whole : Stmt := top 20
abbrev sis_within : Stmt := top 21
abbrev sendurance : Stmt := top 29
abbrev s_law_cell_at : Stmt := top 39
abbrev s_law_size : Stmt := top 40
abbrev s_law_rule : Stmt := top 41
abbrev s_law_written : Stmt := top 42
abbrev s_law_given_up : Stmt := top 43
abbrev s_law_full : Stmt := top 44
abbrev slaw : Stmt := top 45
def fa : List He.Fa := [
  .glo "mark_of",
  .glo "bits_of",
  .glo "is_whole",
  .glo "is_within",
  .glo "endurance",
  .glo "_law_cell_at",
  .glo "_law_size",
  .glo "_law_rule",
  .glo "_law_written",
  .glo "_law_given_up",
  .glo "_law_full",
  .glo "law",
  .glo "Book",
  .glo "Plain",
  .glo "Store",
  .glo "Chip",
  .glo "Rule",
  .glo "Fewest",
  .glo "Eldest",
  .glo "Worth",
  .glo "Terms",
  .glo "Full",
  .int "ROLL" 64,
  .int "MANY" 16,
  .int "MOST" 1000000,
  .free "len",
  .free "sorted",
  .free "isinstance",
  .free "list",
  .free "min",
  .free "range",
  .free "int",
  .free "bool",
  .cls "Store",
  .cls "Chip",
  .cls "Terms",
  .cls "Book",
  .cls "Rule",
  .cls "Fewest",
  .cls "Eldest",
  .cls "Worth",
  .noat "Store" "chip",
  .noat "Store" "terms",
  .noat "Store" "book",
  .noat "Store" "rule",
  .noat "Store" "papers",
  .noat "Chip" "blocks",
  .noat "Chip" "pages",
  .noat "Chip" "most",
  .noat "Chip" "lasts",
  .noat "Chip" "stuff",
  .noat "Chip" "tried",
  .noat "Chip" "clearings",
  .noat "Chip" "broken",
  .noat "Chip" "left",
  .noat "Chip" "log",
  .noat "Terms" "blocks",
  .noat "Terms" "pages",
  .noat "Terms" "sheets",
  .noat "Terms" "share",
  .noat "Terms" "ill",
  .noat "Terms" "spread",
  .noat "Book" "blocks",
  .noat "Book" "pages",
  .noat "Book" "where",
  .noat "Book" "names",
  .noat "Book" "live",
  .noat "Book" "filled",
  .noat "Book" "born",
  .noat "Book" "stamp",
  .meth "Book" "mark",
  .meth "Book" "note",
  .meth "Book" "forget",
  .meth "Book" "emptied",
  .meth "Book" "live_pages",
  .meth "Book" "held",
  .meth "Store" "good",
  .meth "Store" "free",
  .meth "Store" "part",
  .meth "Store" "spot",
  .meth "Store" "ready",
  .meth "Store" "set_down",
  .meth "Store" "lay",
  .meth "Store" "need_sheet",
  .meth "Store" "write",
  .meth "Store" "give_up",
  .meth "Store" "read",
  .meth "Store" "held",
  .meth "Store" "reserve",
  .meth "Store" "space",
  .meth "Store" "tally",
  .meth "Store" "full_ones",
  .meth "Store" "options",
  .meth "Store" "choice",
  .meth "Store" "value_for",
  .meth "Store" "moved",
  .meth "Store" "wiped",
  .meth "Store" "make_room",
  .meth "Store" "make_ready",
  .meth "Chip" "need_page",
  .meth "Chip" "need_block",
  .meth "Chip" "need_power",
  .meth "Chip" "need_good",
  .meth "Chip" "goes_well",
  .meth "Chip" "put",
  .meth "Chip" "wipe",
  .meth "Chip" "read",
  .meth "Chip" "is_dark",
  .meth "Chip" "cleared",
  .meth "Chip" "failed",
  .meth "Rule" "goes_ahead",
  .meth "Rule" "choose",
  .meth "Fewest" "goes_ahead",
  .meth "Fewest" "choose",
  .meth "Eldest" "goes_ahead",
  .meth "Eldest" "choose",
  .meth "Worth" "goes_ahead",
  .meth "Worth" "choose",
  .meth "Terms" "closed",
  .mkr "Book",
  .mkr "Store",
  .mkr "Chip",
  .mkr "Terms",
  .exc "Full",
  .exm "Full" "Full" true]
def fn : List He.DefD := [
  ⟨("Book", some "__init__"), "__init__", "Book.__init__", defArgs sBook_init, defBody sBook_init, defScope sBook_init, [], []⟩,
  ⟨("Book", some "mark"), "mark", "Book.mark", defArgs sBook_mark, defBody sBook_mark, defScope sBook_mark, [], []⟩,
  ⟨("Book", some "note"), "note", "Book.note", defArgs sBook_note, defBody sBook_note, defScope sBook_note, [], []⟩,
  ⟨("Book", some "forget"), "forget", "Book.forget", defArgs sBook_forget, defBody sBook_forget, defScope sBook_forget, [], []⟩,
  ⟨("Book", some "emptied"), "emptied", "Book.emptied", defArgs sBook_emptied, defBody sBook_emptied, defScope sBook_emptied, [], []⟩,
  ⟨("Book", some "live_pages"), "live_pages", "Book.live_pages", defArgs sBook_live_pages, defBody sBook_live_pages, defScope sBook_live_pages, [], []⟩,
  ⟨("Book", some "held"), "held", "Book.held", defArgs sBook_held, defBody sBook_held, defScope sBook_held, [], []⟩,
  ⟨("Plain", some "__init__"), "__init__", "Plain.__init__", defArgs sPlain_init, defBody sPlain_init, defScope sPlain_init, [], []⟩,
  ⟨("Store", some "__init__"), "__init__", "Store.__init__", defArgs sStore_init, defBody sStore_init, defScope sStore_init, [], []⟩,
  ⟨("Store", some "good"), "good", "Plain.good", defArgs sPlain_good, defBody sPlain_good, defScope sPlain_good, [], []⟩,
  ⟨("Store", some "free"), "free", "Plain.free", defArgs sPlain_free, defBody sPlain_free, defScope sPlain_free, [], []⟩,
  ⟨("Store", some "part"), "part", "Plain.part", defArgs sPlain_part, defBody sPlain_part, defScope sPlain_part, [], []⟩,
  ⟨("Store", some "spot"), "spot", "Plain.spot", defArgs sPlain_spot, defBody sPlain_spot, defScope sPlain_spot, [], []⟩,
  ⟨("Store", some "ready"), "ready", "Plain.ready", defArgs sPlain_ready, defBody sPlain_ready, defScope sPlain_ready, [], []⟩,
  ⟨("Store", some "set_down"), "set_down", "Plain.set_down", defArgs sPlain_set_down, defBody sPlain_set_down, defScope sPlain_set_down, [], []⟩,
  ⟨("Store", some "lay"), "lay", "Plain.lay", defArgs sPlain_lay, defBody sPlain_lay, defScope sPlain_lay, [], []⟩,
  ⟨("Store", some "need_sheet"), "need_sheet", "Plain.need_sheet", defArgs sPlain_need_sheet, defBody sPlain_need_sheet, defScope sPlain_need_sheet, [], []⟩,
  ⟨("Store", some "write"), "write", "Plain.write", defArgs sPlain_write, defBody sPlain_write, defScope sPlain_write, [], []⟩,
  ⟨("Store", some "give_up"), "give_up", "Plain.give_up", defArgs sPlain_give_up, defBody sPlain_give_up, defScope sPlain_give_up, [], []⟩,
  ⟨("Store", some "read"), "read", "Plain.read", defArgs sPlain_read, defBody sPlain_read, defScope sPlain_read, [], []⟩,
  ⟨("Store", some "held"), "held", "Plain.held", defArgs sPlain_held, defBody sPlain_held, defScope sPlain_held, [], []⟩,
  ⟨("Store", some "reserve"), "reserve", "Store.reserve", defArgs sStore_reserve, defBody sStore_reserve, defScope sStore_reserve, [], []⟩,
  ⟨("Store", some "space"), "space", "Store.space", defArgs sStore_space, defBody sStore_space, defScope sStore_space, [], []⟩,
  ⟨("Store", some "tally"), "tally", "Store.tally", defArgs sStore_tally, defBody sStore_tally, defScope sStore_tally, [], []⟩,
  ⟨("Store", some "full_ones"), "full_ones", "Store.full_ones", defArgs sStore_full_ones, defBody sStore_full_ones, defScope sStore_full_ones, [], []⟩,
  ⟨("Store", some "options"), "options", "Store.options", defArgs sStore_options, defBody sStore_options, defScope sStore_options, [], []⟩,
  ⟨("Store", some "choice"), "choice", "Store.choice", defArgs sStore_choice, defBody sStore_choice, defScope sStore_choice, [], []⟩,
  ⟨("Store", some "value_for"), "value_for", "Store.value_for", defArgs sStore_value_for, defBody sStore_value_for, defScope sStore_value_for, [], []⟩,
  ⟨("Store", some "moved"), "moved", "Store.moved", defArgs sStore_moved, defBody sStore_moved, defScope sStore_moved, [], []⟩,
  ⟨("Store", some "wiped"), "wiped", "Store.wiped", defArgs sStore_wiped, defBody sStore_wiped, defScope sStore_wiped, [], []⟩,
  ⟨("Store", some "make_room"), "make_room", "Store.make_room", defArgs sStore_make_room, defBody sStore_make_room, defScope sStore_make_room, [], []⟩,
  ⟨("Store", some "make_ready"), "make_ready", "Store.make_ready", defArgs sStore_make_ready, defBody sStore_make_ready, defScope sStore_make_ready, [], []⟩,
  ⟨("Chip", some "__init__"), "__init__", "Chip.__init__", defArgs sChip_init, defBody sChip_init, defScope sChip_init, [.int 1000000, .non], []⟩,
  ⟨("Chip", some "need_page"), "need_page", "Chip.need_page", defArgs sChip_need_page, defBody sChip_need_page, defScope sChip_need_page, [], []⟩,
  ⟨("Chip", some "need_block"), "need_block", "Chip.need_block", defArgs sChip_need_block, defBody sChip_need_block, defScope sChip_need_block, [], []⟩,
  ⟨("Chip", some "need_power"), "need_power", "Chip.need_power", defArgs sChip_need_power, defBody sChip_need_power, defScope sChip_need_power, [], []⟩,
  ⟨("Chip", some "need_good"), "need_good", "Chip.need_good", defArgs sChip_need_good, defBody sChip_need_good, defScope sChip_need_good, [], []⟩,
  ⟨("Chip", some "goes_well"), "goes_well", "Chip.goes_well", defArgs sChip_goes_well, defBody sChip_goes_well, defScope sChip_goes_well, [], []⟩,
  ⟨("Chip", some "put"), "put", "Chip.put", defArgs sChip_put, defBody sChip_put, defScope sChip_put, [], []⟩,
  ⟨("Chip", some "wipe"), "wipe", "Chip.wipe", defArgs sChip_wipe, defBody sChip_wipe, defScope sChip_wipe, [], []⟩,
  ⟨("Chip", some "read"), "read", "Chip.read", defArgs sChip_read, defBody sChip_read, defScope sChip_read, [], []⟩,
  ⟨("Chip", some "is_dark"), "is_dark", "Chip.is_dark", defArgs sChip_is_dark, defBody sChip_is_dark, defScope sChip_is_dark, [], []⟩,
  ⟨("Chip", some "cleared"), "cleared", "Chip.cleared", defArgs sChip_cleared, defBody sChip_cleared, defScope sChip_cleared, [], []⟩,
  ⟨("Chip", some "failed"), "failed", "Chip.failed", defArgs sChip_failed, defBody sChip_failed, defScope sChip_failed, [], []⟩,
  ⟨("Rule", some "goes_ahead"), "goes_ahead", "Rule.goes_ahead", defArgs sRule_goes_ahead, defBody sRule_goes_ahead, defScope sRule_goes_ahead, [], []⟩,
  ⟨("Rule", some "choose"), "choose", "Rule.choose", defArgs sRule_choose, defBody sRule_choose, defScope sRule_choose, [], []⟩,
  ⟨("Fewest", some "goes_ahead"), "goes_ahead", "Fewest.goes_ahead", defArgs sFewest_goes_ahead, defBody sFewest_goes_ahead, defScope sFewest_goes_ahead, [], []⟩,
  ⟨("Fewest", some "choose"), "choose", "Rule.choose", defArgs sRule_choose, defBody sRule_choose, defScope sRule_choose, [], []⟩,
  ⟨("Eldest", some "goes_ahead"), "goes_ahead", "Eldest.goes_ahead", defArgs sEldest_goes_ahead, defBody sEldest_goes_ahead, defScope sEldest_goes_ahead, [], []⟩,
  ⟨("Eldest", some "choose"), "choose", "Rule.choose", defArgs sRule_choose, defBody sRule_choose, defScope sRule_choose, [], []⟩,
  ⟨("Worth", some "goes_ahead"), "goes_ahead", "Worth.goes_ahead", defArgs sWorth_goes_ahead, defBody sWorth_goes_ahead, defScope sWorth_goes_ahead, [], []⟩,
  ⟨("Worth", some "choose"), "choose", "Rule.choose", defArgs sRule_choose, defBody sRule_choose, defScope sRule_choose, [], []⟩,
  ⟨("Terms", some "__init__"), "__init__", "Terms.__init__", defArgs sTerms_init, defBody sTerms_init, defScope sTerms_init, [.int 0, .int 1000000], []⟩,
  ⟨("Terms", some "closed"), "closed", "Terms.closed", defArgs sTerms_closed, defBody sTerms_closed, defScope sTerms_closed, [], []⟩,
  ⟨("mark_of", none), "mark_of", "mark_of", defArgs smark_of, defBody smark_of, defScope smark_of, [], []⟩,
  ⟨("bits_of", none), "bits_of", "bits_of", defArgs sbits_of, defBody sbits_of, defScope sbits_of, [], []⟩,
  ⟨("is_whole", none), "is_whole", "is_whole", defArgs sis_whole, defBody sis_whole, defScope sis_whole, [], []⟩,
  ⟨("is_within", none), "is_within", "is_within", defArgs sis_within, defBody sis_within, defScope sis_within, [], []⟩,
  ⟨("endurance", none), "endurance", "endurance", defArgs sendurance, defBody sendurance, defScope sendurance, [], []⟩,
  ⟨("_law_cell_at", none), "_law_cell_at", "_law_cell_at", defArgs s_law_cell_at, defBody s_law_cell_at, defScope s_law_cell_at, [], []⟩,
  ⟨("_law_size", none), "_law_size", "_law_size", defArgs s_law_size, defBody s_law_size, defScope s_law_size, [], []⟩,
  ⟨("_law_rule", none), "_law_rule", "_law_rule", defArgs s_law_rule, defBody s_law_rule, defScope s_law_rule, [], []⟩,
  ⟨("_law_written", none), "_law_written", "_law_written", defArgs s_law_written, defBody s_law_written, defScope s_law_written, [], []⟩,
  ⟨("_law_given_up", none), "_law_given_up", "_law_given_up", defArgs s_law_given_up, defBody s_law_given_up, defScope s_law_given_up, [], []⟩,
  ⟨("_law_full", none), "_law_full", "_law_full", defArgs s_law_full, defBody s_law_full, defScope s_law_full, [], []⟩,
  ⟨("law", none), "law", "law", defArgs slaw, defBody slaw, defScope slaw, [], []⟩]
/-- what the kit's facts do not hold: Plain's __init__ read off the class, rules without an __init__ -/
def ex (K : PySem.W.Frag) : Bool := PySem.W.readsIn K (He.ga K "Plain") (.type "type") && (decide (PySem.W.specialIn K (.ref (He.ga K "Plain")) "__getattribute__" = some (some (.builtin "type.__getattribute__"))) &&
  ((match PySem.W.findCls K (.ref (He.ga K "Plain")) (.type "type") "__init__" with
    | some (.val v) => decide (v = .ref (He.ma K (He.ga K "Plain") "__init__"))
    | _ => false) &&
  (["Rule", "Fewest", "Eldest", "Worth"].all fun x => PySem.W.makesIn K (He.ga K x) && (decide (PySem.W.findIn K (.ref (He.ga K x)) "__init__" = some (some (.builtin "object.__init__"))) && (PySem.W.keepIn K (.ref (He.ga K x)) && decide (PySem.W.mroIn K (He.ga K x) (.type "object") = some true))))))
structure Txt (K : PySem.W.Frag) (mg : Str → Option Value) : Prop where
  c : He.SaysD fa fn K
  ex : ex K = true
  at_ : ∃ h : Heap, K.In h ∧ h.Ns mainGlobals mg
section
variable {K : PySem.W.Frag} {mg : Str → Option Value}
theorem Txt.g_mark_of (T : Txt K mg) : mg "mark_of" = some (.ref (He.ga K "mark_of")) := let ⟨_, X, G⟩ := T.at_; He.glo_ok X G (T.c.fact 0 rfl)
theorem Txt.g_bits_of (T : Txt K mg) : mg "bits_of" = some (.ref (He.ga K "bits_of")) := let ⟨_, X, G⟩ := T.at_; He.glo_ok X G (T.c.fact 1 rfl)
theorem Txt.g_is_whole (T : Txt K mg) : mg "is_whole" = some (.ref (He.ga K "is_whole")) := let ⟨_, X, G⟩ := T.at_; He.glo_ok X G (T.c.fact 2 rfl)
theorem Txt.g_is_within (T : Txt K mg) : mg "is_within" = some (.ref (He.ga K "is_within")) := let ⟨_, X, G⟩ := T.at_; He.glo_ok X G (T.c.fact 3 rfl)
theorem Txt.g_endurance (T : Txt K mg) : mg "endurance" = some (.ref (He.ga K "endurance")) := let ⟨_, X, G⟩ := T.at_; He.glo_ok X G (T.c.fact 4 rfl)
theorem Txt.g_law_cell_at (T : Txt K mg) : mg "_law_cell_at" = some (.ref (He.ga K "_law_cell_at")) := let ⟨_, X, G⟩ := T.at_; He.glo_ok X G (T.c.fact 5 rfl)
theorem Txt.g_law_size (T : Txt K mg) : mg "_law_size" = some (.ref (He.ga K "_law_size")) := let ⟨_, X, G⟩ := T.at_; He.glo_ok X G (T.c.fact 6 rfl)
theorem Txt.g_law_rule (T : Txt K mg) : mg "_law_rule" = some (.ref (He.ga K "_law_rule")) := let ⟨_, X, G⟩ := T.at_; He.glo_ok X G (T.c.fact 7 rfl)
theorem Txt.g_law_written (T : Txt K mg) : mg "_law_written" = some (.ref (He.ga K "_law_written")) := let ⟨_, X, G⟩ := T.at_; He.glo_ok X G (T.c.fact 8 rfl)
theorem Txt.g_law_given_up (T : Txt K mg) : mg "_law_given_up" = some (.ref (He.ga K "_law_given_up")) := let ⟨_, X, G⟩ := T.at_; He.glo_ok X G (T.c.fact 9 rfl)
theorem Txt.g_law_full (T : Txt K mg) : mg "_law_full" = some (.ref (He.ga K "_law_full")) := let ⟨_, X, G⟩ := T.at_; He.glo_ok X G (T.c.fact 10 rfl)
theorem Txt.g_law (T : Txt K mg) : mg "law" = some (.ref (He.ga K "law")) := let ⟨_, X, G⟩ := T.at_; He.glo_ok X G (T.c.fact 11 rfl)
theorem Txt.g_Book (T : Txt K mg) : mg "Book" = some (.ref (He.ga K "Book")) := let ⟨_, X, G⟩ := T.at_; He.glo_ok X G (T.c.fact 12 rfl)
theorem Txt.g_Plain (T : Txt K mg) : mg "Plain" = some (.ref (He.ga K "Plain")) := let ⟨_, X, G⟩ := T.at_; He.glo_ok X G (T.c.fact 13 rfl)
theorem Txt.g_Store (T : Txt K mg) : mg "Store" = some (.ref (He.ga K "Store")) := let ⟨_, X, G⟩ := T.at_; He.glo_ok X G (T.c.fact 14 rfl)
theorem Txt.g_Chip (T : Txt K mg) : mg "Chip" = some (.ref (He.ga K "Chip")) := let ⟨_, X, G⟩ := T.at_; He.glo_ok X G (T.c.fact 15 rfl)
theorem Txt.g_Rule (T : Txt K mg) : mg "Rule" = some (.ref (He.ga K "Rule")) := let ⟨_, X, G⟩ := T.at_; He.glo_ok X G (T.c.fact 16 rfl)
theorem Txt.g_Fewest (T : Txt K mg) : mg "Fewest" = some (.ref (He.ga K "Fewest")) := let ⟨_, X, G⟩ := T.at_; He.glo_ok X G (T.c.fact 17 rfl)
theorem Txt.g_Eldest (T : Txt K mg) : mg "Eldest" = some (.ref (He.ga K "Eldest")) := let ⟨_, X, G⟩ := T.at_; He.glo_ok X G (T.c.fact 18 rfl)
theorem Txt.g_Worth (T : Txt K mg) : mg "Worth" = some (.ref (He.ga K "Worth")) := let ⟨_, X, G⟩ := T.at_; He.glo_ok X G (T.c.fact 19 rfl)
theorem Txt.g_Terms (T : Txt K mg) : mg "Terms" = some (.ref (He.ga K "Terms")) := let ⟨_, X, G⟩ := T.at_; He.glo_ok X G (T.c.fact 20 rfl)
theorem Txt.g_Full (T : Txt K mg) : mg "Full" = some (.ref (He.ga K "Full")) := let ⟨_, X, G⟩ := T.at_; He.glo_ok X G (T.c.fact 21 rfl)
theorem Txt.i_ROLL (T : Txt K mg) : ∃ t, mg "ROLL" = some (.int 64 t) := let ⟨_, X, G⟩ := T.at_; He.int_ok X G (T.c.fact 22 rfl)
theorem Txt.i_MANY (T : Txt K mg) : ∃ t, mg "MANY" = some (.int 16 t) := let ⟨_, X, G⟩ := T.at_; He.int_ok X G (T.c.fact 23 rfl)
theorem Txt.i_MOST (T : Txt K mg) : ∃ t, mg "MOST" = some (.int 1000000 t) := let ⟨_, X, G⟩ := T.at_; He.int_ok X G (T.c.fact 24 rfl)
theorem Txt.z_len (T : Txt K mg) : mg "len" = none := let ⟨_, X, G⟩ := T.at_; He.free_ok X G (T.c.fact 25 rfl)
theorem Txt.z_sorted (T : Txt K mg) : mg "sorted" = none := let ⟨_, X, G⟩ := T.at_; He.free_ok X G (T.c.fact 26 rfl)
theorem Txt.z_isinstance (T : Txt K mg) : mg "isinstance" = none := let ⟨_, X, G⟩ := T.at_; He.free_ok X G (T.c.fact 27 rfl)
theorem Txt.z_list (T : Txt K mg) : mg "list" = none := let ⟨_, X, G⟩ := T.at_; He.free_ok X G (T.c.fact 28 rfl)
theorem Txt.z_min (T : Txt K mg) : mg "min" = none := let ⟨_, X, G⟩ := T.at_; He.free_ok X G (T.c.fact 29 rfl)
theorem Txt.z_range (T : Txt K mg) : mg "range" = none := let ⟨_, X, G⟩ := T.at_; He.free_ok X G (T.c.fact 30 rfl)
theorem Txt.z_int (T : Txt K mg) : mg "int" = none := let ⟨_, X, G⟩ := T.at_; He.free_ok X G (T.c.fact 31 rfl)
theorem Txt.z_bool (T : Txt K mg) : mg "bool" = none := let ⟨_, X, G⟩ := T.at_; He.free_ok X G (T.c.fact 32 rfl)
theorem Txt.c_Store (T : Txt K mg) : Cls K (He.ga K "Store") := He.cls_ok (T.c.fact 33 rfl)
theorem Txt.c_Chip (T : Txt K mg) : Cls K (He.ga K "Chip") := He.cls_ok (T.c.fact 34 rfl)
theorem Txt.c_Terms (T : Txt K mg) : Cls K (He.ga K "Terms") := He.cls_ok (T.c.fact 35 rfl)
theorem Txt.c_Book (T : Txt K mg) : Cls K (He.ga K "Book") := He.cls_ok (T.c.fact 36 rfl)
theorem Txt.c_Rule (T : Txt K mg) : Cls K (He.ga K "Rule") := He.cls_ok (T.c.fact 37 rfl)
theorem Txt.c_Fewest (T : Txt K mg) : Cls K (He.ga K "Fewest") := He.cls_ok (T.c.fact 38 rfl)
theorem Txt.c_Eldest (T : Txt K mg) : Cls K (He.ga K "Eldest") := He.cls_ok (T.c.fact 39 rfl)
theorem Txt.c_Worth (T : Txt K mg) : Cls K (He.ga K "Worth") := He.cls_ok (T.c.fact 40 rfl)
theorem Txt.nStore_chip (T : Txt K mg) : NoAttr K (He.ga K "Store") "chip" := He.noat_ok (T.c.fact 41 rfl)
theorem Txt.nStore_terms (T : Txt K mg) : NoAttr K (He.ga K "Store") "terms" := He.noat_ok (T.c.fact 42 rfl)
theorem Txt.nStore_book (T : Txt K mg) : NoAttr K (He.ga K "Store") "book" := He.noat_ok (T.c.fact 43 rfl)
theorem Txt.nStore_rule (T : Txt K mg) : NoAttr K (He.ga K "Store") "rule" := He.noat_ok (T.c.fact 44 rfl)
theorem Txt.nStore_papers (T : Txt K mg) : NoAttr K (He.ga K "Store") "papers" := He.noat_ok (T.c.fact 45 rfl)
theorem Txt.nChip_blocks (T : Txt K mg) : NoAttr K (He.ga K "Chip") "blocks" := He.noat_ok (T.c.fact 46 rfl)
theorem Txt.nChip_pages (T : Txt K mg) : NoAttr K (He.ga K "Chip") "pages" := He.noat_ok (T.c.fact 47 rfl)
theorem Txt.nChip_most (T : Txt K mg) : NoAttr K (He.ga K "Chip") "most" := He.noat_ok (T.c.fact 48 rfl)
theorem Txt.nChip_lasts (T : Txt K mg) : NoAttr K (He.ga K "Chip") "lasts" := He.noat_ok (T.c.fact 49 rfl)
theorem Txt.nChip_stuff (T : Txt K mg) : NoAttr K (He.ga K "Chip") "stuff" := He.noat_ok (T.c.fact 50 rfl)
theorem Txt.nChip_tried (T : Txt K mg) : NoAttr K (He.ga K "Chip") "tried" := He.noat_ok (T.c.fact 51 rfl)
theorem Txt.nChip_clearings (T : Txt K mg) : NoAttr K (He.ga K "Chip") "clearings" := He.noat_ok (T.c.fact 52 rfl)
theorem Txt.nChip_broken (T : Txt K mg) : NoAttr K (He.ga K "Chip") "broken" := He.noat_ok (T.c.fact 53 rfl)
theorem Txt.nChip_left (T : Txt K mg) : NoAttr K (He.ga K "Chip") "left" := He.noat_ok (T.c.fact 54 rfl)
theorem Txt.nChip_log (T : Txt K mg) : NoAttr K (He.ga K "Chip") "log" := He.noat_ok (T.c.fact 55 rfl)
theorem Txt.nTerms_blocks (T : Txt K mg) : NoAttr K (He.ga K "Terms") "blocks" := He.noat_ok (T.c.fact 56 rfl)
theorem Txt.nTerms_pages (T : Txt K mg) : NoAttr K (He.ga K "Terms") "pages" := He.noat_ok (T.c.fact 57 rfl)
theorem Txt.nTerms_sheets (T : Txt K mg) : NoAttr K (He.ga K "Terms") "sheets" := He.noat_ok (T.c.fact 58 rfl)
theorem Txt.nTerms_share (T : Txt K mg) : NoAttr K (He.ga K "Terms") "share" := He.noat_ok (T.c.fact 59 rfl)
theorem Txt.nTerms_ill (T : Txt K mg) : NoAttr K (He.ga K "Terms") "ill" := He.noat_ok (T.c.fact 60 rfl)
theorem Txt.nTerms_spread (T : Txt K mg) : NoAttr K (He.ga K "Terms") "spread" := He.noat_ok (T.c.fact 61 rfl)
theorem Txt.nBook_blocks (T : Txt K mg) : NoAttr K (He.ga K "Book") "blocks" := He.noat_ok (T.c.fact 62 rfl)
theorem Txt.nBook_pages (T : Txt K mg) : NoAttr K (He.ga K "Book") "pages" := He.noat_ok (T.c.fact 63 rfl)
theorem Txt.nBook_where (T : Txt K mg) : NoAttr K (He.ga K "Book") "where" := He.noat_ok (T.c.fact 64 rfl)
theorem Txt.nBook_names (T : Txt K mg) : NoAttr K (He.ga K "Book") "names" := He.noat_ok (T.c.fact 65 rfl)
theorem Txt.nBook_live (T : Txt K mg) : NoAttr K (He.ga K "Book") "live" := He.noat_ok (T.c.fact 66 rfl)
theorem Txt.nBook_filled (T : Txt K mg) : NoAttr K (He.ga K "Book") "filled" := He.noat_ok (T.c.fact 67 rfl)
theorem Txt.nBook_born (T : Txt K mg) : NoAttr K (He.ga K "Book") "born" := He.noat_ok (T.c.fact 68 rfl)
theorem Txt.nBook_stamp (T : Txt K mg) : NoAttr K (He.ga K "Book") "stamp" := He.noat_ok (T.c.fact 69 rfl)
theorem Txt.mBook_mark (T : Txt K mg) : Meth K (He.ga K "Book") "mark" (He.ma K (He.ga K "Book") "mark") := He.meth_ok (T.c.fact 70 rfl)
theorem Txt.mBook_note (T : Txt K mg) : Meth K (He.ga K "Book") "note" (He.ma K (He.ga K "Book") "note") := He.meth_ok (T.c.fact 71 rfl)
theorem Txt.mBook_forget (T : Txt K mg) : Meth K (He.ga K "Book") "forget" (He.ma K (He.ga K "Book") "forget") := He.meth_ok (T.c.fact 72 rfl)
theorem Txt.mBook_emptied (T : Txt K mg) : Meth K (He.ga K "Book") "emptied" (He.ma K (He.ga K "Book") "emptied") := He.meth_ok (T.c.fact 73 rfl)
theorem Txt.mBook_live_pages (T : Txt K mg) : Meth K (He.ga K "Book") "live_pages" (He.ma K (He.ga K "Book") "live_pages") := He.meth_ok (T.c.fact 74 rfl)
theorem Txt.mBook_held (T : Txt K mg) : Meth K (He.ga K "Book") "held" (He.ma K (He.ga K "Book") "held") := He.meth_ok (T.c.fact 75 rfl)
theorem Txt.mStore_good (T : Txt K mg) : Meth K (He.ga K "Store") "good" (He.ma K (He.ga K "Store") "good") := He.meth_ok (T.c.fact 76 rfl)
theorem Txt.mStore_free (T : Txt K mg) : Meth K (He.ga K "Store") "free" (He.ma K (He.ga K "Store") "free") := He.meth_ok (T.c.fact 77 rfl)
theorem Txt.mStore_part (T : Txt K mg) : Meth K (He.ga K "Store") "part" (He.ma K (He.ga K "Store") "part") := He.meth_ok (T.c.fact 78 rfl)
theorem Txt.mStore_spot (T : Txt K mg) : Meth K (He.ga K "Store") "spot" (He.ma K (He.ga K "Store") "spot") := He.meth_ok (T.c.fact 79 rfl)
theorem Txt.mStore_ready (T : Txt K mg) : Meth K (He.ga K "Store") "ready" (He.ma K (He.ga K "Store") "ready") := He.meth_ok (T.c.fact 80 rfl)
theorem Txt.mStore_set_down (T : Txt K mg) : Meth K (He.ga K "Store") "set_down" (He.ma K (He.ga K "Store") "set_down") := He.meth_ok (T.c.fact 81 rfl)
theorem Txt.mStore_lay (T : Txt K mg) : Meth K (He.ga K "Store") "lay" (He.ma K (He.ga K "Store") "lay") := He.meth_ok (T.c.fact 82 rfl)
theorem Txt.mStore_need_sheet (T : Txt K mg) : Meth K (He.ga K "Store") "need_sheet" (He.ma K (He.ga K "Store") "need_sheet") := He.meth_ok (T.c.fact 83 rfl)
theorem Txt.mStore_write (T : Txt K mg) : Meth K (He.ga K "Store") "write" (He.ma K (He.ga K "Store") "write") := He.meth_ok (T.c.fact 84 rfl)
theorem Txt.mStore_give_up (T : Txt K mg) : Meth K (He.ga K "Store") "give_up" (He.ma K (He.ga K "Store") "give_up") := He.meth_ok (T.c.fact 85 rfl)
theorem Txt.mStore_read (T : Txt K mg) : Meth K (He.ga K "Store") "read" (He.ma K (He.ga K "Store") "read") := He.meth_ok (T.c.fact 86 rfl)
theorem Txt.mStore_held (T : Txt K mg) : Meth K (He.ga K "Store") "held" (He.ma K (He.ga K "Store") "held") := He.meth_ok (T.c.fact 87 rfl)
theorem Txt.mStore_reserve (T : Txt K mg) : Meth K (He.ga K "Store") "reserve" (He.ma K (He.ga K "Store") "reserve") := He.meth_ok (T.c.fact 88 rfl)
theorem Txt.mStore_space (T : Txt K mg) : Meth K (He.ga K "Store") "space" (He.ma K (He.ga K "Store") "space") := He.meth_ok (T.c.fact 89 rfl)
theorem Txt.mStore_tally (T : Txt K mg) : Meth K (He.ga K "Store") "tally" (He.ma K (He.ga K "Store") "tally") := He.meth_ok (T.c.fact 90 rfl)
theorem Txt.mStore_full_ones (T : Txt K mg) : Meth K (He.ga K "Store") "full_ones" (He.ma K (He.ga K "Store") "full_ones") := He.meth_ok (T.c.fact 91 rfl)
theorem Txt.mStore_options (T : Txt K mg) : Meth K (He.ga K "Store") "options" (He.ma K (He.ga K "Store") "options") := He.meth_ok (T.c.fact 92 rfl)
theorem Txt.mStore_choice (T : Txt K mg) : Meth K (He.ga K "Store") "choice" (He.ma K (He.ga K "Store") "choice") := He.meth_ok (T.c.fact 93 rfl)
theorem Txt.mStore_value_for (T : Txt K mg) : Meth K (He.ga K "Store") "value_for" (He.ma K (He.ga K "Store") "value_for") := He.meth_ok (T.c.fact 94 rfl)
theorem Txt.mStore_moved (T : Txt K mg) : Meth K (He.ga K "Store") "moved" (He.ma K (He.ga K "Store") "moved") := He.meth_ok (T.c.fact 95 rfl)
theorem Txt.mStore_wiped (T : Txt K mg) : Meth K (He.ga K "Store") "wiped" (He.ma K (He.ga K "Store") "wiped") := He.meth_ok (T.c.fact 96 rfl)
theorem Txt.mStore_make_room (T : Txt K mg) : Meth K (He.ga K "Store") "make_room" (He.ma K (He.ga K "Store") "make_room") := He.meth_ok (T.c.fact 97 rfl)
theorem Txt.mStore_make_ready (T : Txt K mg) : Meth K (He.ga K "Store") "make_ready" (He.ma K (He.ga K "Store") "make_ready") := He.meth_ok (T.c.fact 98 rfl)
theorem Txt.mChip_need_page (T : Txt K mg) : Meth K (He.ga K "Chip") "need_page" (He.ma K (He.ga K "Chip") "need_page") := He.meth_ok (T.c.fact 99 rfl)
theorem Txt.mChip_need_block (T : Txt K mg) : Meth K (He.ga K "Chip") "need_block" (He.ma K (He.ga K "Chip") "need_block") := He.meth_ok (T.c.fact 100 rfl)
theorem Txt.mChip_need_power (T : Txt K mg) : Meth K (He.ga K "Chip") "need_power" (He.ma K (He.ga K "Chip") "need_power") := He.meth_ok (T.c.fact 101 rfl)
theorem Txt.mChip_need_good (T : Txt K mg) : Meth K (He.ga K "Chip") "need_good" (He.ma K (He.ga K "Chip") "need_good") := He.meth_ok (T.c.fact 102 rfl)
theorem Txt.mChip_goes_well (T : Txt K mg) : Meth K (He.ga K "Chip") "goes_well" (He.ma K (He.ga K "Chip") "goes_well") := He.meth_ok (T.c.fact 103 rfl)
theorem Txt.mChip_put (T : Txt K mg) : Meth K (He.ga K "Chip") "put" (He.ma K (He.ga K "Chip") "put") := He.meth_ok (T.c.fact 104 rfl)
theorem Txt.mChip_wipe (T : Txt K mg) : Meth K (He.ga K "Chip") "wipe" (He.ma K (He.ga K "Chip") "wipe") := He.meth_ok (T.c.fact 105 rfl)
theorem Txt.mChip_read (T : Txt K mg) : Meth K (He.ga K "Chip") "read" (He.ma K (He.ga K "Chip") "read") := He.meth_ok (T.c.fact 106 rfl)
theorem Txt.mChip_is_dark (T : Txt K mg) : Meth K (He.ga K "Chip") "is_dark" (He.ma K (He.ga K "Chip") "is_dark") := He.meth_ok (T.c.fact 107 rfl)
theorem Txt.mChip_cleared (T : Txt K mg) : Meth K (He.ga K "Chip") "cleared" (He.ma K (He.ga K "Chip") "cleared") := He.meth_ok (T.c.fact 108 rfl)
theorem Txt.mChip_failed (T : Txt K mg) : Meth K (He.ga K "Chip") "failed" (He.ma K (He.ga K "Chip") "failed") := He.meth_ok (T.c.fact 109 rfl)
theorem Txt.mRule_goes_ahead (T : Txt K mg) : Meth K (He.ga K "Rule") "goes_ahead" (He.ma K (He.ga K "Rule") "goes_ahead") := He.meth_ok (T.c.fact 110 rfl)
theorem Txt.mRule_choose (T : Txt K mg) : Meth K (He.ga K "Rule") "choose" (He.ma K (He.ga K "Rule") "choose") := He.meth_ok (T.c.fact 111 rfl)
theorem Txt.mFewest_goes_ahead (T : Txt K mg) : Meth K (He.ga K "Fewest") "goes_ahead" (He.ma K (He.ga K "Fewest") "goes_ahead") := He.meth_ok (T.c.fact 112 rfl)
theorem Txt.mFewest_choose (T : Txt K mg) : Meth K (He.ga K "Fewest") "choose" (He.ma K (He.ga K "Fewest") "choose") := He.meth_ok (T.c.fact 113 rfl)
theorem Txt.mEldest_goes_ahead (T : Txt K mg) : Meth K (He.ga K "Eldest") "goes_ahead" (He.ma K (He.ga K "Eldest") "goes_ahead") := He.meth_ok (T.c.fact 114 rfl)
theorem Txt.mEldest_choose (T : Txt K mg) : Meth K (He.ga K "Eldest") "choose" (He.ma K (He.ga K "Eldest") "choose") := He.meth_ok (T.c.fact 115 rfl)
theorem Txt.mWorth_goes_ahead (T : Txt K mg) : Meth K (He.ga K "Worth") "goes_ahead" (He.ma K (He.ga K "Worth") "goes_ahead") := He.meth_ok (T.c.fact 116 rfl)
theorem Txt.mWorth_choose (T : Txt K mg) : Meth K (He.ga K "Worth") "choose" (He.ma K (He.ga K "Worth") "choose") := He.meth_ok (T.c.fact 117 rfl)
theorem Txt.mTerms_closed (T : Txt K mg) : Meth K (He.ga K "Terms") "closed" (He.ma K (He.ga K "Terms") "closed") := He.meth_ok (T.c.fact 118 rfl)
theorem Txt.k_Book (T : Txt K mg) : Mk K (He.ga K "Book") (He.ma K (He.ga K "Book") "__init__") := He.mkr_ok (T.c.fact 119 rfl)
theorem Txt.k_Store (T : Txt K mg) : Mk K (He.ga K "Store") (He.ma K (He.ga K "Store") "__init__") := He.mkr_ok (T.c.fact 120 rfl)
theorem Txt.k_Chip (T : Txt K mg) : Mk K (He.ga K "Chip") (He.ma K (He.ga K "Chip") "__init__") := He.mkr_ok (T.c.fact 121 rfl)
theorem Txt.k_Terms (T : Txt K mg) : Mk K (He.ga K "Terms") (He.ma K (He.ga K "Terms") "__init__") := He.mkr_ok (T.c.fact 122 rfl)
theorem Txt.x_Full (T : Txt K mg) : PySem.W.excIn K (He.ga K "Full") He.veBase "ValueError.__new__" = true ∧ PySem.W.keepIn K (.ref (He.ga K "Full")) = true ∧ PySem.W.subIn K (.ref (He.ga K "Full")) (.type "BaseException") = some true ∧ PySem.W.typeIn K (.ref (He.ga K "Full")) = some (.type "type") := He.exc_ok (T.c.fact 123 rfl)
theorem Txt.e_Full (T : Txt K mg) : PySem.W.exmOne K (.ref (He.ga K "Full")) (.ref (He.ga K "Full")) = some true := He.exm_ok (T.c.fact 124 rfl)
theorem Txt.dBook_init (T : Txt K mg) : ∃ fd, FunD K "__init__" "Book.__init__" (defArgs sBook_init) (defBody sBook_init) (defScope sBook_init) [] [] (He.ma K (He.ga K "Book") "__init__") fd := T.c.def_ 0 rfl
theorem Txt.dBook_mark (T : Txt K mg) : ∃ fd, FunD K "mark" "Book.mark" (defArgs sBook_mark) (defBody sBook_mark) (defScope sBook_mark) [] [] (He.ma K (He.ga K "Book") "mark") fd := T.c.def_ 1 rfl
theorem Txt.dBook_note (T : Txt K mg) : ∃ fd, FunD K "note" "Book.note" (defArgs sBook_note) (defBody sBook_note) (defScope sBook_note) [] [] (He.ma K (He.ga K "Book") "note") fd := T.c.def_ 2 rfl
theorem Txt.dBook_forget (T : Txt K mg) : ∃ fd, FunD K "forget" "Book.forget" (defArgs sBook_forget) (defBody sBook_forget) (defScope sBook_forget) [] [] (He.ma K (He.ga K "Book") "forget") fd := T.c.def_ 3 rfl
theorem Txt.dBook_emptied (T : Txt K mg) : ∃ fd, FunD K "emptied" "Book.emptied" (defArgs sBook_emptied) (defBody sBook_emptied) (defScope sBook_emptied) [] [] (He.ma K (He.ga K "Book") "emptied") fd := T.c.def_ 4 rfl
theorem Txt.dBook_live_pages (T : Txt K mg) : ∃ fd, FunD K "live_pages" "Book.live_pages" (defArgs sBook_live_pages) (defBody sBook_live_pages) (defScope sBook_live_pages) [] [] (He.ma K (He.ga K "Book") "live_pages") fd := T.c.def_ 5 rfl
theorem Txt.dBook_held (T : Txt K mg) : ∃ fd, FunD K "held" "Book.held" (defArgs sBook_held) (defBody sBook_held) (defScope sBook_held) [] [] (He.ma K (He.ga K "Book") "held") fd := T.c.def_ 6 rfl
theorem Txt.dPlain_init (T : Txt K mg) : ∃ fd, FunD K "__init__" "Plain.__init__" (defArgs sPlain_init) (defBody sPlain_init) (defScope sPlain_init) [] [] (He.ma K (He.ga K "Plain") "__init__") fd := T.c.def_ 7 rfl
theorem Txt.dStore_init (T : Txt K mg) : ∃ fd, FunD K "__init__" "Store.__init__" (defArgs sStore_init) (defBody sStore_init) (defScope sStore_init) [] [] (He.ma K (He.ga K "Store") "__init__") fd := T.c.def_ 8 rfl
theorem Txt.dStore_good (T : Txt K mg) : ∃ fd, FunD K "good" "Plain.good" (defArgs sPlain_good) (defBody sPlain_good) (defScope sPlain_good) [] [] (He.ma K (He.ga K "Store") "good") fd := T.c.def_ 9 rfl
theorem Txt.dStore_free (T : Txt K mg) : ∃ fd, FunD K "free" "Plain.free" (defArgs sPlain_free) (defBody sPlain_free) (defScope sPlain_free) [] [] (He.ma K (He.ga K "Store") "free") fd := T.c.def_ 10 rfl
theorem Txt.dStore_part (T : Txt K mg) : ∃ fd, FunD K "part" "Plain.part" (defArgs sPlain_part) (defBody sPlain_part) (defScope sPlain_part) [] [] (He.ma K (He.ga K "Store") "part") fd := T.c.def_ 11 rfl
theorem Txt.dStore_spot (T : Txt K mg) : ∃ fd, FunD K "spot" "Plain.spot" (defArgs sPlain_spot) (defBody sPlain_spot) (defScope sPlain_spot) [] [] (He.ma K (He.ga K "Store") "spot") fd := T.c.def_ 12 rfl
theorem Txt.dStore_ready (T : Txt K mg) : ∃ fd, FunD K "ready" "Plain.ready" (defArgs sPlain_ready) (defBody sPlain_ready) (defScope sPlain_ready) [] [] (He.ma K (He.ga K "Store") "ready") fd := T.c.def_ 13 rfl
theorem Txt.dStore_set_down (T : Txt K mg) : ∃ fd, FunD K "set_down" "Plain.set_down" (defArgs sPlain_set_down) (defBody sPlain_set_down) (defScope sPlain_set_down) [] [] (He.ma K (He.ga K "Store") "set_down") fd := T.c.def_ 14 rfl
theorem Txt.dStore_lay (T : Txt K mg) : ∃ fd, FunD K "lay" "Plain.lay" (defArgs sPlain_lay) (defBody sPlain_lay) (defScope sPlain_lay) [] [] (He.ma K (He.ga K "Store") "lay") fd := T.c.def_ 15 rfl
theorem Txt.dStore_need_sheet (T : Txt K mg) : ∃ fd, FunD K "need_sheet" "Plain.need_sheet" (defArgs sPlain_need_sheet) (defBody sPlain_need_sheet) (defScope sPlain_need_sheet) [] [] (He.ma K (He.ga K "Store") "need_sheet") fd := T.c.def_ 16 rfl
theorem Txt.dStore_write (T : Txt K mg) : ∃ fd, FunD K "write" "Plain.write" (defArgs sPlain_write) (defBody sPlain_write) (defScope sPlain_write) [] [] (He.ma K (He.ga K "Store") "write") fd := T.c.def_ 17 rfl
theorem Txt.dStore_give_up (T : Txt K mg) : ∃ fd, FunD K "give_up" "Plain.give_up" (defArgs sPlain_give_up) (defBody sPlain_give_up) (defScope sPlain_give_up) [] [] (He.ma K (He.ga K "Store") "give_up") fd := T.c.def_ 18 rfl
theorem Txt.dStore_read (T : Txt K mg) : ∃ fd, FunD K "read" "Plain.read" (defArgs sPlain_read) (defBody sPlain_read) (defScope sPlain_read) [] [] (He.ma K (He.ga K "Store") "read") fd := T.c.def_ 19 rfl
theorem Txt.dStore_held (T : Txt K mg) : ∃ fd, FunD K "held" "Plain.held" (defArgs sPlain_held) (defBody sPlain_held) (defScope sPlain_held) [] [] (He.ma K (He.ga K "Store") "held") fd := T.c.def_ 20 rfl
theorem Txt.dStore_reserve (T : Txt K mg) : ∃ fd, FunD K "reserve" "Store.reserve" (defArgs sStore_reserve) (defBody sStore_reserve) (defScope sStore_reserve) [] [] (He.ma K (He.ga K "Store") "reserve") fd := T.c.def_ 21 rfl
theorem Txt.dStore_space (T : Txt K mg) : ∃ fd, FunD K "space" "Store.space" (defArgs sStore_space) (defBody sStore_space) (defScope sStore_space) [] [] (He.ma K (He.ga K "Store") "space") fd := T.c.def_ 22 rfl
theorem Txt.dStore_tally (T : Txt K mg) : ∃ fd, FunD K "tally" "Store.tally" (defArgs sStore_tally) (defBody sStore_tally) (defScope sStore_tally) [] [] (He.ma K (He.ga K "Store") "tally") fd := T.c.def_ 23 rfl
theorem Txt.dStore_full_ones (T : Txt K mg) : ∃ fd, FunD K "full_ones" "Store.full_ones" (defArgs sStore_full_ones) (defBody sStore_full_ones) (defScope sStore_full_ones) [] [] (He.ma K (He.ga K "Store") "full_ones") fd := T.c.def_ 24 rfl
theorem Txt.dStore_options (T : Txt K mg) : ∃ fd, FunD K "options" "Store.options" (defArgs sStore_options) (defBody sStore_options) (defScope sStore_options) [] [] (He.ma K (He.ga K "Store") "options") fd := T.c.def_ 25 rfl
theorem Txt.dStore_choice (T : Txt K mg) : ∃ fd, FunD K "choice" "Store.choice" (defArgs sStore_choice) (defBody sStore_choice) (defScope sStore_choice) [] [] (He.ma K (He.ga K "Store") "choice") fd := T.c.def_ 26 rfl
theorem Txt.dStore_value_for (T : Txt K mg) : ∃ fd, FunD K "value_for" "Store.value_for" (defArgs sStore_value_for) (defBody sStore_value_for) (defScope sStore_value_for) [] [] (He.ma K (He.ga K "Store") "value_for") fd := T.c.def_ 27 rfl
theorem Txt.dStore_moved (T : Txt K mg) : ∃ fd, FunD K "moved" "Store.moved" (defArgs sStore_moved) (defBody sStore_moved) (defScope sStore_moved) [] [] (He.ma K (He.ga K "Store") "moved") fd := T.c.def_ 28 rfl
theorem Txt.dStore_wiped (T : Txt K mg) : ∃ fd, FunD K "wiped" "Store.wiped" (defArgs sStore_wiped) (defBody sStore_wiped) (defScope sStore_wiped) [] [] (He.ma K (He.ga K "Store") "wiped") fd := T.c.def_ 29 rfl
theorem Txt.dStore_make_room (T : Txt K mg) : ∃ fd, FunD K "make_room" "Store.make_room" (defArgs sStore_make_room) (defBody sStore_make_room) (defScope sStore_make_room) [] [] (He.ma K (He.ga K "Store") "make_room") fd := T.c.def_ 30 rfl
theorem Txt.dStore_make_ready (T : Txt K mg) : ∃ fd, FunD K "make_ready" "Store.make_ready" (defArgs sStore_make_ready) (defBody sStore_make_ready) (defScope sStore_make_ready) [] [] (He.ma K (He.ga K "Store") "make_ready") fd := T.c.def_ 31 rfl
theorem Txt.dChip_init (T : Txt K mg) : ∃ fd, FunD K "__init__" "Chip.__init__" (defArgs sChip_init) (defBody sChip_init) (defScope sChip_init) [V.int 1000000, V.non] [] (He.ma K (He.ga K "Chip") "__init__") fd := T.c.def_ 32 rfl
theorem Txt.dChip_need_page (T : Txt K mg) : ∃ fd, FunD K "need_page" "Chip.need_page" (defArgs sChip_need_page) (defBody sChip_need_page) (defScope sChip_need_page) [] [] (He.ma K (He.ga K "Chip") "need_page") fd := T.c.def_ 33 rfl
theorem Txt.dChip_need_block (T : Txt K mg) : ∃ fd, FunD K "need_block" "Chip.need_block" (defArgs sChip_need_block) (defBody sChip_need_block) (defScope sChip_need_block) [] [] (He.ma K (He.ga K "Chip") "need_block") fd := T.c.def_ 34 rfl
theorem Txt.dChip_need_power (T : Txt K mg) : ∃ fd, FunD K "need_power" "Chip.need_power" (defArgs sChip_need_power) (defBody sChip_need_power) (defScope sChip_need_power) [] [] (He.ma K (He.ga K "Chip") "need_power") fd := T.c.def_ 35 rfl
theorem Txt.dChip_need_good (T : Txt K mg) : ∃ fd, FunD K "need_good" "Chip.need_good" (defArgs sChip_need_good) (defBody sChip_need_good) (defScope sChip_need_good) [] [] (He.ma K (He.ga K "Chip") "need_good") fd := T.c.def_ 36 rfl
theorem Txt.dChip_goes_well (T : Txt K mg) : ∃ fd, FunD K "goes_well" "Chip.goes_well" (defArgs sChip_goes_well) (defBody sChip_goes_well) (defScope sChip_goes_well) [] [] (He.ma K (He.ga K "Chip") "goes_well") fd := T.c.def_ 37 rfl
theorem Txt.dChip_put (T : Txt K mg) : ∃ fd, FunD K "put" "Chip.put" (defArgs sChip_put) (defBody sChip_put) (defScope sChip_put) [] [] (He.ma K (He.ga K "Chip") "put") fd := T.c.def_ 38 rfl
theorem Txt.dChip_wipe (T : Txt K mg) : ∃ fd, FunD K "wipe" "Chip.wipe" (defArgs sChip_wipe) (defBody sChip_wipe) (defScope sChip_wipe) [] [] (He.ma K (He.ga K "Chip") "wipe") fd := T.c.def_ 39 rfl
theorem Txt.dChip_read (T : Txt K mg) : ∃ fd, FunD K "read" "Chip.read" (defArgs sChip_read) (defBody sChip_read) (defScope sChip_read) [] [] (He.ma K (He.ga K "Chip") "read") fd := T.c.def_ 40 rfl
theorem Txt.dChip_is_dark (T : Txt K mg) : ∃ fd, FunD K "is_dark" "Chip.is_dark" (defArgs sChip_is_dark) (defBody sChip_is_dark) (defScope sChip_is_dark) [] [] (He.ma K (He.ga K "Chip") "is_dark") fd := T.c.def_ 41 rfl
theorem Txt.dChip_cleared (T : Txt K mg) : ∃ fd, FunD K "cleared" "Chip.cleared" (defArgs sChip_cleared) (defBody sChip_cleared) (defScope sChip_cleared) [] [] (He.ma K (He.ga K "Chip") "cleared") fd := T.c.def_ 42 rfl
theorem Txt.dChip_failed (T : Txt K mg) : ∃ fd, FunD K "failed" "Chip.failed" (defArgs sChip_failed) (defBody sChip_failed) (defScope sChip_failed) [] [] (He.ma K (He.ga K "Chip") "failed") fd := T.c.def_ 43 rfl
theorem Txt.dRule_goes_ahead (T : Txt K mg) : ∃ fd, FunD K "goes_ahead" "Rule.goes_ahead" (defArgs sRule_goes_ahead) (defBody sRule_goes_ahead) (defScope sRule_goes_ahead) [] [] (He.ma K (He.ga K "Rule") "goes_ahead") fd := T.c.def_ 44 rfl
theorem Txt.dRule_choose (T : Txt K mg) : ∃ fd, FunD K "choose" "Rule.choose" (defArgs sRule_choose) (defBody sRule_choose) (defScope sRule_choose) [] [] (He.ma K (He.ga K "Rule") "choose") fd := T.c.def_ 45 rfl
theorem Txt.dFewest_goes_ahead (T : Txt K mg) : ∃ fd, FunD K "goes_ahead" "Fewest.goes_ahead" (defArgs sFewest_goes_ahead) (defBody sFewest_goes_ahead) (defScope sFewest_goes_ahead) [] [] (He.ma K (He.ga K "Fewest") "goes_ahead") fd := T.c.def_ 46 rfl
theorem Txt.dFewest_choose (T : Txt K mg) : ∃ fd, FunD K "choose" "Rule.choose" (defArgs sRule_choose) (defBody sRule_choose) (defScope sRule_choose) [] [] (He.ma K (He.ga K "Fewest") "choose") fd := T.c.def_ 47 rfl
theorem Txt.dEldest_goes_ahead (T : Txt K mg) : ∃ fd, FunD K "goes_ahead" "Eldest.goes_ahead" (defArgs sEldest_goes_ahead) (defBody sEldest_goes_ahead) (defScope sEldest_goes_ahead) [] [] (He.ma K (He.ga K "Eldest") "goes_ahead") fd := T.c.def_ 48 rfl
theorem Txt.dEldest_choose (T : Txt K mg) : ∃ fd, FunD K "choose" "Rule.choose" (defArgs sRule_choose) (defBody sRule_choose) (defScope sRule_choose) [] [] (He.ma K (He.ga K "Eldest") "choose") fd := T.c.def_ 49 rfl
theorem Txt.dWorth_goes_ahead (T : Txt K mg) : ∃ fd, FunD K "goes_ahead" "Worth.goes_ahead" (defArgs sWorth_goes_ahead) (defBody sWorth_goes_ahead) (defScope sWorth_goes_ahead) [] [] (He.ma K (He.ga K "Worth") "goes_ahead") fd := T.c.def_ 50 rfl
theorem Txt.dWorth_choose (T : Txt K mg) : ∃ fd, FunD K "choose" "Rule.choose" (defArgs sRule_choose) (defBody sRule_choose) (defScope sRule_choose) [] [] (He.ma K (He.ga K "Worth") "choose") fd := T.c.def_ 51 rfl
theorem Txt.dTerms_init (T : Txt K mg) : ∃ fd, FunD K "__init__" "Terms.__init__" (defArgs sTerms_init) (defBody sTerms_init) (defScope sTerms_init) [V.int 0, V.int 1000000] [] (He.ma K (He.ga K "Terms") "__init__") fd := T.c.def_ 52 rfl
theorem Txt.dTerms_closed (T : Txt K mg) : ∃ fd, FunD K "closed" "Terms.closed" (defArgs sTerms_closed) (defBody sTerms_closed) (defScope sTerms_closed) [] [] (He.ma K (He.ga K "Terms") "closed") fd := T.c.def_ 53 rfl
theorem Txt.d_mark_of (T : Txt K mg) : ∃ fd, FunD K "mark_of" "mark_of" (defArgs smark_of) (defBody smark_of) (defScope smark_of) [] [] (He.ga K "mark_of") fd := T.c.def_ 54 rfl
theorem Txt.d_bits_of (T : Txt K mg) : ∃ fd, FunD K "bits_of" "bits_of" (defArgs sbits_of) (defBody sbits_of) (defScope sbits_of) [] [] (He.ga K "bits_of") fd := T.c.def_ 55 rfl
theorem Txt.d_is_whole (T : Txt K mg) : ∃ fd, FunD K "is_whole" "is_whole" (defArgs sis_whole) (defBody sis_whole) (defScope sis_whole) [] [] (He.ga K "is_whole") fd := T.c.def_ 56 rfl
theorem Txt.d_is_within (T : Txt K mg) : ∃ fd, FunD K "is_within" "is_within" (defArgs sis_within) (defBody sis_within) (defScope sis_within) [] [] (He.ga K "is_within") fd := T.c.def_ 57 rfl
theorem Txt.d_endurance (T : Txt K mg) : ∃ fd, FunD K "endurance" "endurance" (defArgs sendurance) (defBody sendurance) (defScope sendurance) [] [] (He.ga K "endurance") fd := T.c.def_ 58 rfl
theorem Txt.d_law_cell_at (T : Txt K mg) : ∃ fd, FunD K "_law_cell_at" "_law_cell_at" (defArgs s_law_cell_at) (defBody s_law_cell_at) (defScope s_law_cell_at) [] [] (He.ga K "_law_cell_at") fd := T.c.def_ 59 rfl
theorem Txt.d_law_size (T : Txt K mg) : ∃ fd, FunD K "_law_size" "_law_size" (defArgs s_law_size) (defBody s_law_size) (defScope s_law_size) [] [] (He.ga K "_law_size") fd := T.c.def_ 60 rfl
theorem Txt.d_law_rule (T : Txt K mg) : ∃ fd, FunD K "_law_rule" "_law_rule" (defArgs s_law_rule) (defBody s_law_rule) (defScope s_law_rule) [] [] (He.ga K "_law_rule") fd := T.c.def_ 61 rfl
theorem Txt.d_law_written (T : Txt K mg) : ∃ fd, FunD K "_law_written" "_law_written" (defArgs s_law_written) (defBody s_law_written) (defScope s_law_written) [] [] (He.ga K "_law_written") fd := T.c.def_ 62 rfl
theorem Txt.d_law_given_up (T : Txt K mg) : ∃ fd, FunD K "_law_given_up" "_law_given_up" (defArgs s_law_given_up) (defBody s_law_given_up) (defScope s_law_given_up) [] [] (He.ga K "_law_given_up") fd := T.c.def_ 63 rfl
theorem Txt.d_law_full (T : Txt K mg) : ∃ fd, FunD K "_law_full" "_law_full" (defArgs s_law_full) (defBody s_law_full) (defScope s_law_full) [] [] (He.ga K "_law_full") fd := T.c.def_ 64 rfl
theorem Txt.d_law (T : Txt K mg) : ∃ fd, FunD K "law" "law" (defArgs slaw) (defBody slaw) (defScope slaw) [] [] (He.ga K "law") fd := T.c.def_ 65 rfl
end
end Wp
set_option maxHeartbeats 0
namespace Wp
open PySem PySem.Spec PyProof.Rows L2
def asW (g : Addr → Option Obj) : Nat → List Addr
  | 0 => [mainGlobals, cStatics]
  | n + 1 => He.growD g (asW g n)
abbrev AlW : Type := He.AlD × Bool
def obsWG (n : Nat) (g : Addr → Option Obj) : AlW := (He.obsD fa fn (He.frG g (asW g n)), ex (He.frG g (asW g n)))
def hookW (n : Nat) : PySem.W.Hook where
  α := AlW
  obs := fun s => obsWG n s.heap.get?
  val := fun _ => (He.valD fn, true)
  says := fun _ h => ∃ K : PySem.W.Frag, K.In h ∧ He.SaysD fa fn K ∧ ex K = true
  of := fun _ _ e => ⟨_, He.frG_in, congrArg (fun z : AlW => z.1) e, congrArg (fun z : AlW => z.2) e⟩
  keeps := fun _ _ _ ⟨K, hK, c⟩ k => ⟨K, PySem.W.Frag.In.keeps hK k, c⟩
theorem obsW_eq {n : Nat} {g : Addr → Option Obj} {s : Shared} (h : ∀ a, g a = s.heap.get? a) : obsWG n g = (hookW n).obs s := by
  have e : g = s.heap.get? := funext h
  rw [e] <;> rfl
def names : List PySem.Str := (["_wall", "WornError", "NoChip", "NoPlace", "PowerGone", "BlockFailed", "NotClear", "NoTerms", "NoSheet", "NoValue", "Full", "NoRoom"] : List PySem.Str) ++ ((["ROLL", "mark_of", "bits_of", "Book", "is_whole", "is_within", "Plain", "Store", "MANY", "MOST", "endurance", "Chip"] : List PySem.Str) ++ (["Rule", "Fewest", "Eldest", "Worth", "Terms", "_law_cell_at", "_law_size", "_law_rule", "_law_written", "_law_given_up", "_law_full"] : List PySem.Str))
abbrev R : PySem.W.OpenRow := PySem.W.OpenLaw.row PySem.Challenge.rw_wornpages_k38_whole_full_share
abbrev hk : PySem.W.Hook := hookW 4
def ob (s : PySem.W.SharedT) : AlW := obsWG 4 (HandSHeadRun.getT s)
theorem ob_eq (s : PySem.W.SharedT) : ob s = hk.obs s.abs := obsW_eq (HandSHeadRun.getT_eq s)
theorem run (w : World) : HandSHeadRun.RunEq R (PySem.W.view R.prog [45]) hk ob 8000 names w := by
  intro os
  kernel_rfl
end Wp
namespace Wp
open PySem PySem.Spec PyProof.Rows L2
def rGetL (K : PySem.W.Frag) : V → V → Hp → VK → Prop := fun x y H Q => ∃ (p : Addr) (xs : List V) (j : Nat) (v : V), x = .ref p ∧ y = .int j ∧ SqL K H p xs ∧ xs[j]? = some v ∧ Q v H
theorem pget_list {X : Cx} : PGet X (rGetL X.K) := by
  intro pins s σ H x y v u Q I rx ry h
  obtain ⟨p, xs, j, z, rfl, rfl, hq, he, q⟩ := h
  cases rx
  obtain ⟨t, rfl⟩ := ry
  obtain ⟨its, r, pl, hz⟩ := I.list hq
  obtain ⟨w, ew, rw'⟩ := r.get he
  have hn := line63
  have hj : j < xs.length := (List.getElem?_eq_some_iff.mp he).1
  exact wpAny_getItem_list pl.isList (by omega) (by omega) (by simpa using ew) ⟨z, H, I, rw', q⟩
theorem op_divNat {X : Cx} : OpR X (binaryOp .FloorDiv) (fun x y H Q => ∃ p q : Nat, x = .int p ∧ y = .int q ∧ (0 < q ∧ q ≤ 1000000) ∧ Q (.int (p / q : Nat)) H) := by
  intro pins s σ H x y u v Q I rx ry h
  obtain ⟨p, q, rfl, rfl, ⟨h1, h2⟩, k⟩ := h
  refine op_fdivN pins s σ H _ _ u v Q I rx ry ⟨_, _, rfl, rfl, ⟨by omega, by omega⟩, ?_⟩
  have e : ((p : Int).fdiv (q : Int)) = ((p / q : Nat) : Int) := by
    rw [Int.fdiv_eq_ediv_of_nonneg _ (by omega)]
    rfl
  show Q (.int ((p : Int).fdiv (q : Int))) H
  rw [e]
  exact k
theorem op_mulNat {X : Cx} : OpR X (binaryOp .Mult) (fun x y H Q => ∃ p q : Nat, x = .int p ∧ y = .int q ∧ p ≤ 1000000 ∧ Q (.int (p * q : Nat)) H) := by
  intro pins s σ H x y u v Q I rx ry h
  obtain ⟨p, q, rfl, rfl, h1, k⟩ := h
  refine op_mul pins s σ H _ _ u v Q I rx ry ⟨_, _, rfl, rfl, .inl ⟨by omega, by omega⟩, ?_⟩
  exact k
theorem op_addNat {X : Cx} : OpR X (binaryOp .Add) (fun x y H Q => ∃ p q : Nat, x = .int p ∧ y = .int q ∧ Q (.int (p + q : Nat)) H) := by
  intro pins s σ H x y u v Q I rx ry h
  obtain ⟨p, q, rfl, rfl, k⟩ := h
  exact op_add pins s σ H _ _ u v Q I rx ry ⟨_, _, rfl, rfl, k⟩
structure Mk0 (K : PySem.W.Frag) (C : Addr) : Prop where
  makes : PySem.W.makesIn K C = true
  init : PySem.W.findIn K (.ref C) "__init__" = some (some (.builtin "object.__init__"))
  kp : PySem.W.keepIn K (.ref C) = true
def tMake0 (C : Addr) : TE := fun _ H Q => ∀ x dx, H x = none → H dx = none → dx ≠ x → Q (.ref x) (upd (upd H dx (.own x)) x (.ins C dx []))
section
variable {X : Cx} {C : Addr} {x : Str} {p pos : Pos}
theorem run_make0 {pins : List (Addr × Obj)} {σ : L2.St} {H : Hp} {s : Shared} {Q : VK} (M : Mk0 X.K C) (I : Inv X pins σ H s)
    (h : ∀ x dx, H x = none → H dx = none → dx ≠ x → Q (.ref x) (upd (upd H dx (.own x)) x (.ins C dx []))) :
    wpAny (model X.prog X.w) X.A (call (.ref C) []) (EP X pins σ Q) X.xe s := by
  have hq := h (s.heap.objs.size + 1) s.heap.objs.size (I.hok.fresh (Nat.le_succ _)) (I.hok.fresh (Nat.le_refl _)) (Nat.ne_of_lt (Nat.lt_succ_self _))
  have I2 := Inv.made (C := C) I
  have fin : EP X pins σ Q (.ref (s.heap.objs.size + 1)) { s with heap := (s.heap.push PySem.W.emptyDict).push (PySem.W.instObj C s.heap.objs.size) } := ⟨V.ref (s.heap.objs.size + 1), _, I2, rfl, hq⟩
  have kin := I.kIn
  obtain ⟨hh, g, d, t, os⟩ := s
  refine wpAny_call ?_
  have Y := PySem.W.makes_of (M := model X.prog X.w) kin M.makes
  refine PySem.W.make_core Y (PySem.W.looks_findIn kin M.init) (fun self => PySem.W.Looks.of_pure (PySem.W.oi_bind self)) (.inr ⟨rfl, rfl⟩) ?_
  have ho : ((hh.push PySem.W.emptyDict).push (PySem.W.instObj C hh.objs.size)).get? (hh.objs.size + 1) = some (PySem.W.instObj C hh.objs.size) := by
    have := Heap.get?_push_size (hh.push PySem.W.emptyDict) (o := PySem.W.instObj C hh.objs.size) rfl
    rwa [Heap.size_push] at this
  have t1 : PySem.W.Looks (model X.prog X.w) ((hh.push PySem.W.emptyDict).push (PySem.W.instObj C hh.objs.size)) (typeOf (.ref (hh.objs.size + 1))) (.ref C) := (PySem.W.Looks.ld ho).andThen .now
  have t2 : PySem.W.Looks (model X.prog X.w) ((hh.push PySem.W.emptyDict).push (PySem.W.instObj C hh.objs.size)) (isInstance (.ref (hh.objs.size + 1)) (.type "object")) true := t1.andThen (Y.top.keeps fun b o e => Heap.get?_push_of_some _ (Heap.get?_push_of_some _ e))
  refine codeAny_call_builtin PySem.W.oi_plain PySem.W.entry_oi (@PySem.W.check_slot (model X.prog X.w) _ _ _ "object.__init__" "object" "__init__" (.ref (hh.objs.size + 1)) [] [] _ PySem.W.oi_kind PySem.W.oi_split t2 (PySem.W.oi_args (.ref (hh.objs.size + 1))) ?_)
  rw [PySem.W.oi_run]
  exact wpAny_pure (And.intro rfl fin)
theorem pe_make00 (M : Mk0 X.K C) (hg : Gl X x) (hm : X.mg x = some (.ref C)) (hdb : (x == ("__debug__" : Str)) = false := by decide) : PE X (.Call (.Name x p) [] [] pos) (tMake0 C) := by
  refine ⟨fun pins s σ H Q I h => ?_⟩
  refine wpAny_Call_Name_kw (ld_glob I hg hm ?_ hdb)
  exact PySem.W.callWith_K0 I.kIn M.kp (run_make0 M I h)
end
def tCFn (C : Addr) (sp : Sp) (E : XK) (ta : TE) (t : TA) : TE := fun σ H Q => ta σ H fun x H1 => x = .ref C ∧ t σ H1 fun vs H2 => sp vs H2 Q E
section
variable {X : Cx} {CX : CXT} {k : Nat} {C f : Addr} {mc : Value} {fd : FuncData} {ps : List Str} {sp : Sp} {E : XK} {o e : Expr} {es : List Expr} {m : Str} {pos apos : Pos} {ta : TE} {t : TA}
theorem pe_cfn {pl : Sem Bool} (he : PE X o ta) (r : ClX.CRead X.K C mc) (c : ClX.CVal X.K C mc m (.ref f) (.ref f)) (hk : PySem.W.keepIn X.K (.ref f) = true) (F : FnOk X.prog X.w X.K X.mg X.base CX k f fd ps sp) (hr : Room k X.A) (hb : Binds X.K fd ps []) (hx : Passes CX X E) (ha : PA X (e :: es) t)
    (hst : starEach (e :: es) X.env = (false, eval e X.env) :: starEach es X.env := by rfl) (hpl : (backTo pos (starEach es X.env)).any (·.1) = false := by rfl)
    (ht : eval (.Call (.Attribute o m apos) (e :: es) [] pos) X.env = (do
      let ov ← eval o X.env
      standAt apos.atName
      let (f, first) ← holding [ov] (getMethod ov m pl)
      callWith pos f first (backTo pos (starEach (e :: es) X.env)) (backToKw pos (keywordEach [] X.env))) := by rfl) :
    PE X (.Call (.Attribute o m apos) (e :: es) [] pos) (tCFn C sp E ta t) := by
  refine ⟨fun pins s σ H Q I h => ?_⟩
  refine PySem.W.methodCall_KW (pl := pl) (thn (he.run pins s σ H _ I h) fun u s1 ⟨x, H1, I1, rx, ex, q⟩ => ?_) ht
  subst ex
  obtain rfl : u = Value.ref C := rx
  refine PySem.W.method_cls I1.kIn r.ga (ClX.getcval_ok I1 r c fun s2 I2 => ?_)
  refine PySem.W.callWith_K (first := []) (h₀ := X.base) I.ok.mod.kin hk (thn (ha.run pos pins s2 σ H1 _ I2 q) fun us s3 ⟨vs, H2, I3, rv, q2⟩ => ⟨I3.kIn, ?_⟩) hst hpl
  exact run_fn F hr hb .nil hx I3 rv (by rw [List.append_nil]; exact q2)
end
section
variable {P : Program} {w : World} {K : PySem.W.Frag} {mg : Str → Option Value} {base : Heap}
/-- as Fun.ok, over FunD -/
theorem fd_ok {x qual : Str} {params : Arguments} {body : List Stmt} {scope : Scope} {dvs : List V} {kws : List (Str × V)} {f : Addr} {fd : FuncData} {N ps : List Str} {k : Nat} {sp : Sp} (F : FunD K x qual params body scope dvs kws f fd) (S : FnScope N ps scope) (len : ∀ vs H Q E, sp vs H Q E → vs.length = ps.length)
    (hbody : ∀ (cdv : Value) (A : Around) (outer : List Env) (s : Shared) (H : Hp) (vs : List V) (Q : VK) (E : XK), Room k (A.deeper (envOfC qual scope s.heap.objs.size f cdv)) → sp vs H Q E →
      ∃ t, PSs (cxOf CX0 P w K mg base N qual scope f cdv A outer s H E).nox body t ∧ t { nx := fun _ H' => Q .non H', rt := Q } (start N vs) H) : FnOk P w K mg base CX0 (k + 1) f fd ps sp :=
  F.ok S len fun cdv A outer s H vs Q E hr h => let ⟨t, a, b⟩ := hbody cdv A outer s H vs Q E hr h; ⟨t, a.nox, b⟩
/-- a method, by its body -/
theorem met {C : Addr} {m qual : Str} {params : Arguments} {body : List Stmt} {scope : Scope} {f : Addr} {N ps : List Str} {k : Nat} {sp : Sp} (c : Cls K C) (me : Meth K C m f) (F : ∃ fd, FunD K m qual params body scope [] [] f fd)
    (hb : ∀ (kV doc pm : Value) (an : Option Addr) (cdv ct : Value) (us : List Value), us.length = ps.length → bindArgs (PySem.W.fnOf m qual params body scope .none kV doc pm an cdv ct) ⟨us, []⟩ = pure (ps.zip us)) (S : FnScope N ps scope) (len : ∀ vs H Q E, sp vs H Q E → vs.length = ps.length)
    (hbody : ∀ (cdv : Value) (A : Around) (outer : List Env) (s : Shared) (H : Hp) (vs : List V) (Q : VK) (E : XK), Room k (A.deeper (envOfC qual scope s.heap.objs.size f cdv)) → sp vs H Q E →
      ∃ t, PSs (cxOf CX0 P w K mg base N qual scope f cdv A outer s H E).nox body t ∧ t { nx := fun _ H' => Q .non H', rt := Q } (start N vs) H) : C8.Met P w K mg base (k + 1) C m sp [] := by
  obtain ⟨fd, F⟩ := F
  exact ⟨f, fd, ps, [], c, me, fd_ok F S len hbody, F.bindsN hb, .nil⟩
/-- a def of the module -/
theorem cal {x : Str} {params : Arguments} {body : List Stmt} {scope : Scope} {f : Addr} {N ps : List Str} {k : Nat} {sp : Sp} (g : mg x = some (.ref f)) (F : ∃ fd, FunD K x x params body scope [] [] f fd)
    (hb : ∀ (kV doc pm : Value) (an : Option Addr) (cdv ct : Value) (us : List Value), us.length = ps.length → bindArgs (PySem.W.fnOf x x params body scope .none kV doc pm an cdv ct) ⟨us, []⟩ = pure (ps.zip us)) (S : FnScope N ps scope) (len : ∀ vs H Q E, sp vs H Q E → vs.length = ps.length)
    (hbody : ∀ (cdv : Value) (A : Around) (outer : List Env) (s : Shared) (H : Hp) (vs : List V) (Q : VK) (E : XK), Room k (A.deeper (envOfC x scope s.heap.objs.size f cdv)) → sp vs H Q E →
      ∃ t, PSs (cxOf CX0 P w K mg base N x scope f cdv A outer s H E).nox body t ∧ t { nx := fun _ H' => Q .non H', rt := Q } (start N vs) H) : C8.Cal P w K mg base (k + 1) x sp [] := by
  obtain ⟨fd, F⟩ := F
  exact ⟨f, fd, ps, [], fd_ok F S len hbody, g, F.kp, F.bindsN hb, .nil⟩
/-- a class with an __init__ of no defaults -/
theorem mak {x qual : Str} {C : Addr} {params : Arguments} {body : List Stmt} {scope : Scope} {f : Addr} {N ps : List Str} {k : Nat} {sp : Sp} (M : Mk K C f) (g : mg x = some (.ref C)) (F : ∃ fd, FunD K "__init__" qual params body scope [] [] f fd)
    (hb : ∀ (kV doc pm : Value) (an : Option Addr) (cdv ct : Value) (us : List Value), us.length = ps.length → bindArgs (PySem.W.fnOf "__init__" qual params body scope .none kV doc pm an cdv ct) ⟨us, []⟩ = pure (ps.zip us)) (S : FnScope N ps scope) (len : ∀ vs H Q E, sp vs H Q E → vs.length = ps.length)
    (hbody : ∀ (cdv : Value) (A : Around) (outer : List Env) (s : Shared) (H : Hp) (vs : List V) (Q : VK) (E : XK), Room k (A.deeper (envOfC qual scope s.heap.objs.size f cdv)) → sp vs H Q E →
      ∃ t, PSs (cxOf CX0 P w K mg base N qual scope f cdv A outer s H E).nox body t ∧ t { nx := fun _ H' => Q .non H', rt := Q } (start N vs) H) : C8.Mak P w K mg base (k + 1) x C sp [] := by
  obtain ⟨fd, F⟩ := F
  exact ⟨f, fd, ps, [], M, fd_ok F S len hbody, g, F.bindsN hb, .nil⟩
end
end Wp
namespace Wp
open PySem PySem.Spec PyProof.Rows L2
/-- a store's places and terms -/
structure Cf where
  A : Nat → Addr
  D : Nat → Addr
  Cr : Addr
  B : Nat
  P : Nat
  share : Nat
  ill : Nat
/-- what a store holds -/
structure WS where
  m : MS
  kvs : List (Key × V)
  log : List V
  papers : List V
def optI : Option Nat → V
  | none => .non
  | some n => .int n
def optR : Option (Nat × Int) → V
  | none => .non
  | some q => .ref q.1
def mkL (n : Nat) (f : Nat → V) : List V := (List.range n).map f
theorem mkL_len {n : Nat} {f : Nat → V} : (mkL n f).length = n := by unfold mkL; rw [List.length_map, List.length_range]
theorem mkL_get {n i : Nat} {f : Nat → V} (h : i < n) : (mkL n f)[i]? = some (f i) := by
  unfold mkL
  rw [List.getElem?_map, List.getElem?_range h]
  rfl
theorem mkL_set {n i : Nat} {f : Nat → V} {v : V} : (mkL n f).set i v = mkL n fun j => if j = i then v else f j := by
  refine List.ext_getElem? fun j => ?_
  by_cases h : j < n
  · rw [mkL_get h]
    by_cases e : j = i
    · subst e
      rw [if_pos rfl, List.getElem?_set_self (by rw [mkL_len]; exact h)]
    · rw [if_neg e, List.getElem?_set_ne (fun z => e z.symm), mkL_get h]
  · rw [List.getElem?_eq_none (by rw [List.length_set, mkL_len]; omega), List.getElem?_eq_none (by rw [mkL_len]; omega)]
theorem mkL_congr {n : Nat} {f g : Nat → V} (h : ∀ i, i < n → f i = g i) : mkL n f = mkL n g := by
  refine List.ext_getElem? fun j => ?_
  by_cases e : j < n
  · rw [mkL_get e, mkL_get e, h j e]
  · rw [List.getElem?_eq_none (by rw [mkL_len]; omega), List.getElem?_eq_none (by rw [mkL_len]; omega)]
theorem ixN_nat {n j : Nat} (h : j < n) : ixN n (j : Int) = some j := by
  unfold ixN
  rw [if_pos (by omega), if_pos (by omega)]
  simp
theorem fdiv_nat (p q : Nat) : ((p : Int).fdiv (q : Int)) = ((p / q : Nat) : Int) := by
  rw [Int.fdiv_eq_ediv_of_nonneg _ (by omega)]
  rfl
theorem upd_up {f : Nat → Nat} {b v : Nat} {i : Nat} {z : Int} (hz : z = ((v : Nat) : Int)) : (if i = b then V.int z else V.int (f i)) = V.int ((up f b v i : Nat) : Int) := by
  subst hz
  unfold up
  split <;> rfl
def fStore (c : Cf) : List (Str × V) := [("chip", .ref (c.A 1)), ("terms", .ref (c.A 2)), ("book", .ref (c.A 3)), ("rule", .ref (c.A 4)), ("papers", .ref (c.A 5))]
theorem lk_Store_chip {c : Cf} : (fStore c).lookup ("chip" : Str) = some (.ref (c.A 1)) := by kernel_rfl
theorem lk_Store_terms {c : Cf} : (fStore c).lookup ("terms" : Str) = some (.ref (c.A 2)) := by kernel_rfl
theorem lk_Store_book {c : Cf} : (fStore c).lookup ("book" : Str) = some (.ref (c.A 3)) := by kernel_rfl
theorem lk_Store_rule {c : Cf} : (fStore c).lookup ("rule" : Str) = some (.ref (c.A 4)) := by kernel_rfl
theorem lk_Store_papers {c : Cf} : (fStore c).lookup ("papers" : Str) = some (.ref (c.A 5)) := by kernel_rfl
theorem ln_Store_good {c : Cf} : (fStore c).lookup ("good" : Str) = none := by kernel_rfl
theorem ln_Store_free {c : Cf} : (fStore c).lookup ("free" : Str) = none := by kernel_rfl
theorem ln_Store_part {c : Cf} : (fStore c).lookup ("part" : Str) = none := by kernel_rfl
theorem ln_Store_spot {c : Cf} : (fStore c).lookup ("spot" : Str) = none := by kernel_rfl
theorem ln_Store_ready {c : Cf} : (fStore c).lookup ("ready" : Str) = none := by kernel_rfl
theorem ln_Store_set_down {c : Cf} : (fStore c).lookup ("set_down" : Str) = none := by kernel_rfl
theorem ln_Store_lay {c : Cf} : (fStore c).lookup ("lay" : Str) = none := by kernel_rfl
theorem ln_Store_need_sheet {c : Cf} : (fStore c).lookup ("need_sheet" : Str) = none := by kernel_rfl
theorem ln_Store_write {c : Cf} : (fStore c).lookup ("write" : Str) = none := by kernel_rfl
theorem ln_Store_give_up {c : Cf} : (fStore c).lookup ("give_up" : Str) = none := by kernel_rfl
theorem ln_Store_read {c : Cf} : (fStore c).lookup ("read" : Str) = none := by kernel_rfl
theorem ln_Store_held {c : Cf} : (fStore c).lookup ("held" : Str) = none := by kernel_rfl
theorem ln_Store_reserve {c : Cf} : (fStore c).lookup ("reserve" : Str) = none := by kernel_rfl
theorem ln_Store_space {c : Cf} : (fStore c).lookup ("space" : Str) = none := by kernel_rfl
theorem ln_Store_tally {c : Cf} : (fStore c).lookup ("tally" : Str) = none := by kernel_rfl
theorem ln_Store_full_ones {c : Cf} : (fStore c).lookup ("full_ones" : Str) = none := by kernel_rfl
theorem ln_Store_options {c : Cf} : (fStore c).lookup ("options" : Str) = none := by kernel_rfl
theorem ln_Store_choice {c : Cf} : (fStore c).lookup ("choice" : Str) = none := by kernel_rfl
theorem ln_Store_value_for {c : Cf} : (fStore c).lookup ("value_for" : Str) = none := by kernel_rfl
theorem ln_Store_moved {c : Cf} : (fStore c).lookup ("moved" : Str) = none := by kernel_rfl
theorem ln_Store_wiped {c : Cf} : (fStore c).lookup ("wiped" : Str) = none := by kernel_rfl
theorem ln_Store_make_room {c : Cf} : (fStore c).lookup ("make_room" : Str) = none := by kernel_rfl
theorem ln_Store_make_ready {c : Cf} : (fStore c).lookup ("make_ready" : Str) = none := by kernel_rfl
def fChip (c : Cf) : List (Str × V) := [("blocks", .int c.B), ("pages", .int c.P), ("most", .int 1000000), ("lasts", .ref (c.A 6)), ("stuff", .ref (c.A 7)), ("tried", .ref (c.A 8)), ("clearings", .ref (c.A 9)), ("broken", .ref (c.A 10)), ("left", .non), ("log", .ref (c.A 11))]
theorem lk_Chip_blocks {c : Cf} : (fChip c).lookup ("blocks" : Str) = some (.int c.B) := by kernel_rfl
theorem lk_Chip_pages {c : Cf} : (fChip c).lookup ("pages" : Str) = some (.int c.P) := by kernel_rfl
theorem lk_Chip_most {c : Cf} : (fChip c).lookup ("most" : Str) = some (.int 1000000) := by kernel_rfl
theorem lk_Chip_lasts {c : Cf} : (fChip c).lookup ("lasts" : Str) = some (.ref (c.A 6)) := by kernel_rfl
theorem lk_Chip_stuff {c : Cf} : (fChip c).lookup ("stuff" : Str) = some (.ref (c.A 7)) := by kernel_rfl
theorem lk_Chip_tried {c : Cf} : (fChip c).lookup ("tried" : Str) = some (.ref (c.A 8)) := by kernel_rfl
theorem lk_Chip_clearings {c : Cf} : (fChip c).lookup ("clearings" : Str) = some (.ref (c.A 9)) := by kernel_rfl
theorem lk_Chip_broken {c : Cf} : (fChip c).lookup ("broken" : Str) = some (.ref (c.A 10)) := by kernel_rfl
theorem lk_Chip_left {c : Cf} : (fChip c).lookup ("left" : Str) = some (.non) := by kernel_rfl
theorem lk_Chip_log {c : Cf} : (fChip c).lookup ("log" : Str) = some (.ref (c.A 11)) := by kernel_rfl
theorem ln_Chip_need_page {c : Cf} : (fChip c).lookup ("need_page" : Str) = none := by kernel_rfl
theorem ln_Chip_need_block {c : Cf} : (fChip c).lookup ("need_block" : Str) = none := by kernel_rfl
theorem ln_Chip_need_power {c : Cf} : (fChip c).lookup ("need_power" : Str) = none := by kernel_rfl
theorem ln_Chip_need_good {c : Cf} : (fChip c).lookup ("need_good" : Str) = none := by kernel_rfl
theorem ln_Chip_goes_well {c : Cf} : (fChip c).lookup ("goes_well" : Str) = none := by kernel_rfl
theorem ln_Chip_put {c : Cf} : (fChip c).lookup ("put" : Str) = none := by kernel_rfl
theorem ln_Chip_wipe {c : Cf} : (fChip c).lookup ("wipe" : Str) = none := by kernel_rfl
theorem ln_Chip_read {c : Cf} : (fChip c).lookup ("read" : Str) = none := by kernel_rfl
theorem ln_Chip_is_dark {c : Cf} : (fChip c).lookup ("is_dark" : Str) = none := by kernel_rfl
theorem ln_Chip_cleared {c : Cf} : (fChip c).lookup ("cleared" : Str) = none := by kernel_rfl
theorem ln_Chip_failed {c : Cf} : (fChip c).lookup ("failed" : Str) = none := by kernel_rfl
def fTerms (c : Cf) : List (Str × V) := [("blocks", .int c.B), ("pages", .int c.P), ("sheets", .int 64), ("share", .int c.share), ("ill", .int c.ill), ("spread", .int 1000000)]
theorem lk_Terms_blocks {c : Cf} : (fTerms c).lookup ("blocks" : Str) = some (.int c.B) := by kernel_rfl
theorem lk_Terms_pages {c : Cf} : (fTerms c).lookup ("pages" : Str) = some (.int c.P) := by kernel_rfl
theorem lk_Terms_sheets {c : Cf} : (fTerms c).lookup ("sheets" : Str) = some (.int 64) := by kernel_rfl
theorem lk_Terms_share {c : Cf} : (fTerms c).lookup ("share" : Str) = some (.int c.share) := by kernel_rfl
theorem lk_Terms_ill {c : Cf} : (fTerms c).lookup ("ill" : Str) = some (.int c.ill) := by kernel_rfl
theorem lk_Terms_spread {c : Cf} : (fTerms c).lookup ("spread" : Str) = some (.int 1000000) := by kernel_rfl
theorem ln_Terms_closed {c : Cf} : (fTerms c).lookup ("closed" : Str) = none := by kernel_rfl
def fBook (c : Cf) (z : Int) : List (Str × V) := [("blocks", .int c.B), ("pages", .int c.P), ("where", .ref (c.A 12)), ("names", .ref (c.A 13)), ("live", .ref (c.A 14)), ("filled", .ref (c.A 15)), ("born", .ref (c.A 16)), ("stamp", .int z)]
theorem lk_Book_blocks {c : Cf} {z : Int} : (fBook c z).lookup ("blocks" : Str) = some (.int c.B) := by kernel_rfl
theorem lk_Book_pages {c : Cf} {z : Int} : (fBook c z).lookup ("pages" : Str) = some (.int c.P) := by kernel_rfl
theorem lk_Book_where {c : Cf} {z : Int} : (fBook c z).lookup ("where" : Str) = some (.ref (c.A 12)) := by kernel_rfl
theorem lk_Book_names {c : Cf} {z : Int} : (fBook c z).lookup ("names" : Str) = some (.ref (c.A 13)) := by kernel_rfl
theorem lk_Book_live {c : Cf} {z : Int} : (fBook c z).lookup ("live" : Str) = some (.ref (c.A 14)) := by kernel_rfl
theorem lk_Book_filled {c : Cf} {z : Int} : (fBook c z).lookup ("filled" : Str) = some (.ref (c.A 15)) := by kernel_rfl
theorem lk_Book_born {c : Cf} {z : Int} : (fBook c z).lookup ("born" : Str) = some (.ref (c.A 16)) := by kernel_rfl
theorem lk_Book_stamp {c : Cf} {z : Int} : (fBook c z).lookup ("stamp" : Str) = some (.int z) := by kernel_rfl
theorem ln_Book_mark {c : Cf} {z : Int} : (fBook c z).lookup ("mark" : Str) = none := by kernel_rfl
theorem ln_Book_note {c : Cf} {z : Int} : (fBook c z).lookup ("note" : Str) = none := by kernel_rfl
theorem ln_Book_forget {c : Cf} {z : Int} : (fBook c z).lookup ("forget" : Str) = none := by kernel_rfl
theorem ln_Book_emptied {c : Cf} {z : Int} : (fBook c z).lookup ("emptied" : Str) = none := by kernel_rfl
theorem ln_Book_live_pages {c : Cf} {z : Int} : (fBook c z).lookup ("live_pages" : Str) = none := by kernel_rfl
theorem ln_Book_held {c : Cf} {z : Int} : (fBook c z).lookup ("held" : Str) = none := by kernel_rfl
structure DictR (kvs : List (Key × V)) (whr : Nat → Option Nat) : Prop where
  nd : (kvs.map (·.1)).Nodup
  to : ∀ k v, valV kvs k = some v → ∃ n p : Nat, k = .inl (n : Int) ∧ v = .int p ∧ whr n = some p
  fr : ∀ n p, whr n = some p → valV kvs (.inl (n : Int)) = some (.int (p : Int))
structure CfOk (c : Cf) : Prop where
  inj : ∀ i j, i < 17 → j < 17 → c.A i = c.A j → i = j
  B1 : 2 ≤ c.B
  B2 : c.B ≤ 16
  P1 : 1 ≤ c.P
  P2 : c.P ≤ 16
  il : c.ill + 2 ≤ c.B
  sh : c.share + 2 = (c.B - 1 - c.ill) * c.P
  sh2 : c.share ≤ 64
def obj (K : PySem.W.Frag) (c : Cf) (S : WS) : Nat → HO
  | 0 => .ins (He.ga K "Store") (c.D 0) (fStore c)
  | 1 => .ins (He.ga K "Chip") (c.D 1) (fChip c)
  | 2 => .ins (He.ga K "Terms") (c.D 2) (fTerms c)
  | 3 => .ins (He.ga K "Book") (c.D 3) (fBook c S.m.stamp)
  | 4 => .ins c.Cr (c.D 4) []
  | 5 => .lst S.papers
  | 6 => .lst (mkL c.B fun _ => .non)
  | 7 => .lst (mkL (c.B * c.P) fun p => optR (S.m.stuff p))
  | 8 => .lst (mkL c.B fun b => .int (S.m.tried b : Nat))
  | 9 => .lst (mkL c.B fun b => .int (S.m.clr b : Nat))
  | 10 => .lst (mkL c.B fun _ => .bl false)
  | 11 => .lst S.log
  | 12 => .dK S.kvs
  | 13 => .lst (mkL (c.B * c.P) fun p => optI (S.m.names p))
  | 14 => .lst (mkL c.B fun b => .int (S.m.live b : Nat))
  | 15 => .lst (mkL c.B fun b => .int (S.m.filled b : Nat))
  | _ => .lst (mkL c.B fun b => .int (S.m.born b))
theorem obj_tup {K : PySem.W.Frag} {c : Cf} {S : WS} {xs : List V} : ∀ i, obj K c S i ≠ .tup xs
  | 0 | 1 | 2 | 3 | 4 | 5 | 6 | 7 | 8 | 9 | 10 | 11 | 12 | 13 | 14 | 15 => fun h => by cases h
  | i + 16 => fun h => by cases h
/-- the four rules -/
def RuleOk (K : PySem.W.Frag) (c : Cf) : Prop := c.Cr = He.ga K "Rule" ∨ c.Cr = He.ga K "Fewest" ∨ c.Cr = He.ga K "Eldest" ∨ c.Cr = He.ga K "Worth"
structure Rep (K : PySem.W.Frag) (c : Cf) (S : WS) (H : Hp) : Prop where
  ok : CfOk c
  at_ : ∀ i, i < 17 → H (c.A i) = some (obj K c S i)
  tup : ∀ p t z, p < c.B * c.P → S.m.stuff p = some (t, z) → ∃ k : Int, H t = some (.tup [.int k, .int z])
  dic : DictR S.kvs S.m.whr
  rl : RuleOk K c
/-- all that was tracked besides the store's own objects is as it was -/
def Fr (c : Cf) (H H' : Hp) : Prop := ∀ b o, H b = some o → (∀ i, i < 17 → b ≠ c.A i) → H' b = some o
theorem Fr.refl {c : Cf} (H : Hp) : Fr c H H := fun _ _ h _ => h
theorem Fr.trans {c : Cf} {H H1 H2 : Hp} (a : Fr c H H1) (b : Fr c H1 H2) : Fr c H H2 := fun d o h n => b d o (a d o h n) n
theorem Fr.same {c : Cf} {H H' : Hp} (s : Same H H') : Fr c H H' := fun b o h _ => s b o h
theorem Fr.upd {c : Cf} {H : Hp} {i : Nat} {o : HO} (hi : i < 17) : Fr c H (upd H (c.A i) o) := fun b u h n => by
  rw [upd_ne (n i hi)]
  exact h
theorem same_new {H : Hp} {p : Addr} {o : HO} (h : H p = none) : Same H (upd H p o) := fun b x e => by
  rw [upd_ne (ne_of_none e h)]
  exact e
/-- tuples stay -/
theorem Fr.tup {K : PySem.W.Frag} {c : Cf} {S : WS} {H H' : Hp} (f : Fr c H H') (R : Rep K c S H) {t : Addr} {xs : List V} (h : H t = some (.tup xs)) : H' t = some (.tup xs) := f t _ h fun i hi e => by
  rw [e, R.at_ i hi] at h
  exact obj_tup i (Option.some.inj h)
/-- a new object is none of the store's -/
theorem Rep.new {K : PySem.W.Frag} {c : Cf} {S : WS} {H : Hp} (R : Rep K c S H) {p : Addr} (h : H p = none) : ∀ i, i < 17 → p ≠ c.A i := fun i hi e => by
  rw [e, R.at_ i hi] at h
  cases h
theorem Fr.new {K : PySem.W.Frag} {c : Cf} {S : WS} {H H1 H' : Hp} (f : Fr c H1 H') (R : Rep K c S H) {p : Addr} {o : HO} (hn : H p = none) (h : H1 p = some o) : H' p = some o := f p o h (R.new hn)
section
variable {K : PySem.W.Frag} {c : Cf} {S : WS} {H H' : Hp}
theorem Rep.same (R : Rep K c S H) (s : Same H H') : Rep K c S H' := ⟨R.ok, fun i hi => s _ _ (R.at_ i hi), fun p t z hp h => let ⟨k, e⟩ := R.tup p t z hp h; ⟨k, s _ _ e⟩, R.dic, R.rl⟩
theorem Rep.ne (R : Rep K c S H) {i j : Nat} (hi : i < 17) (hj : j < 17) (h : i ≠ j) : c.A i ≠ c.A j := fun e => h (R.ok.inj i j hi hj e)
theorem Rep.upd (R : Rep K c S H) {i : Nat} {S' : WS} {o : HO} (hi : i < 17) (ho : obj K c S' i = o) (hne : ∀ j, j < 17 → j ≠ i → obj K c S' j = obj K c S j)
    (ht : ∀ p t z, p < c.B * c.P → S'.m.stuff p = some (t, z) → ∃ k : Int, H t = some (.tup [.int k, .int z])) (hd : DictR S'.kvs S'.m.whr) : Rep K c S' (upd H (c.A i) o) := by
  refine ⟨R.ok, fun j hj => ?_, fun p t z hp h => ?_, hd, R.rl⟩
  · by_cases e : j = i
    · rw [e, upd_same, ho]
    · rw [upd_ne (R.ne hj hi e), R.at_ j hj, hne j hj e]
  · obtain ⟨k, e⟩ := ht p t z hp h
    refine ⟨k, ?_⟩
    rw [upd_ne fun q => ?_]
    · exact e
    · rw [q, R.at_ i hi] at e
      exact obj_tup i (Option.some.inj e)
theorem Rep.stuff (R : Rep K c S H) {p : Nat} (hp : p < c.B * c.P) (v : Option (Nat × Int)) (hv : ∀ t z, v = some (t, z) → ∃ k : Int, H t = some (.tup [.int k, .int z])) :
    Rep K c { S with m := { S.m with stuff := up S.m.stuff p v } } (L2.upd H (c.A 7) (.lst ((mkL (c.B * c.P) fun p => optR (S.m.stuff p)).set p (optR v)))) := by
  refine R.upd (i := 7) (by decide) ?_ (fun j hj hne => ?_) (fun q t z hq h => ?_) R.dic
  · rw [mkL_set]
    show HO.lst (mkL (c.B * c.P) fun q => optR (up S.m.stuff p v q)) = _
    congr 1
    refine mkL_congr fun i _ => ?_
    unfold up
    split <;> rfl
  · match j, hj, hne with
    | 0, _, _ | 1, _, _ | 2, _, _ | 3, _, _ | 4, _, _ | 5, _, _ | 6, _, _ | 8, _, _ | 9, _, _ | 10, _, _ | 11, _, _ | 12, _, _ | 13, _, _ | 14, _, _ | 15, _, _ | 16, _, _ => rfl
    | 7, _, h => exact absurd rfl h
    | j + 17, h, _ => exact absurd h (by omega)
  · have h : up S.m.stuff p v q = some (t, z) := h
    by_cases e : q = p
    · rw [e, up_same] at h
      exact hv t z h
    · rw [up_ne e] at h
      exact R.tup q t z hq h
theorem Rep.tried (R : Rep K c S H) {b v : Nat} {z : Int} (hz : z = ((v : Nat) : Int)) :
    Rep K c { S with m := { S.m with tried := up S.m.tried b v } } (L2.upd H (c.A 8) (.lst ((mkL c.B fun b => .int (S.m.tried b : Nat)).set b (.int z)))) := by
  refine R.upd (i := 8) (by decide) ?_ (fun j hj hne => ?_) R.tup R.dic
  · rw [mkL_set]
    exact congrArg HO.lst (mkL_congr fun i _ => (upd_up hz).symm)
  · match j, hj, hne with
    | 0, _, _ | 1, _, _ | 2, _, _ | 3, _, _ | 4, _, _ | 5, _, _ | 6, _, _ | 7, _, _ | 9, _, _ | 10, _, _ | 11, _, _ | 12, _, _ | 13, _, _ | 14, _, _ | 15, _, _ | 16, _, _ => rfl
    | 8, _, h => exact absurd rfl h
    | j + 17, h, _ => exact absurd h (by omega)
theorem Rep.clr (R : Rep K c S H) {b v : Nat} {z : Int} (hz : z = ((v : Nat) : Int)) :
    Rep K c { S with m := { S.m with clr := up S.m.clr b v } } (L2.upd H (c.A 9) (.lst ((mkL c.B fun b => .int (S.m.clr b : Nat)).set b (.int z)))) := by
  refine R.upd (i := 9) (by decide) ?_ (fun j hj hne => ?_) R.tup R.dic
  · rw [mkL_set]
    exact congrArg HO.lst (mkL_congr fun i _ => (upd_up hz).symm)
  · match j, hj, hne with
    | 0, _, _ | 1, _, _ | 2, _, _ | 3, _, _ | 4, _, _ | 5, _, _ | 6, _, _ | 7, _, _ | 8, _, _ | 10, _, _ | 11, _, _ | 12, _, _ | 13, _, _ | 14, _, _ | 15, _, _ | 16, _, _ => rfl
    | 9, _, h => exact absurd rfl h
    | j + 17, h, _ => exact absurd h (by omega)
theorem Rep.broken (R : Rep K c S H) {b : Nat} : Rep K c S (L2.upd H (c.A 10) (.lst ((mkL c.B fun _ => .bl false).set b (.bl false)))) := by
  refine R.upd (i := 10) (by decide) ?_ (fun j hj hne => rfl) R.tup R.dic
  rw [mkL_set]
  exact congrArg HO.lst (mkL_congr fun i _ => (ite_self _).symm)
theorem Rep.log (R : Rep K c S H) (l : List V) : Rep K c { S with log := l } (L2.upd H (c.A 11) (.lst l)) := by
  refine R.upd (i := 11) (by decide) rfl (fun j hj hne => ?_) R.tup R.dic
  match j, hj, hne with
  | 0, _, _ | 1, _, _ | 2, _, _ | 3, _, _ | 4, _, _ | 5, _, _ | 6, _, _ | 7, _, _ | 8, _, _ | 9, _, _ | 10, _, _ | 12, _, _ | 13, _, _ | 14, _, _ | 15, _, _ | 16, _, _ => rfl
  | 11, _, h => exact absurd rfl h
  | j + 17, h, _ => exact absurd h (by omega)
theorem Rep.papers (R : Rep K c S H) (l : List V) : Rep K c { S with papers := l } (L2.upd H (c.A 5) (.lst l)) := by
  refine R.upd (i := 5) (by decide) rfl (fun j hj hne => ?_) R.tup R.dic
  match j, hj, hne with
  | 0, _, _ | 1, _, _ | 2, _, _ | 3, _, _ | 4, _, _ | 6, _, _ | 7, _, _ | 8, _, _ | 9, _, _ | 10, _, _ | 11, _, _ | 12, _, _ | 13, _, _ | 14, _, _ | 15, _, _ | 16, _, _ => rfl
  | 5, _, h => exact absurd rfl h
  | j + 17, h, _ => exact absurd h (by omega)
theorem Rep.dict (R : Rep K c S H) (kvs : List (Key × V)) (whr : Nat → Option Nat) (h : DictR kvs whr) : Rep K c { S with kvs := kvs, m := { S.m with whr := whr } } (L2.upd H (c.A 12) (.dK kvs)) := by
  refine R.upd (i := 12) (by decide) rfl (fun j hj hne => ?_) R.tup h
  match j, hj, hne with
  | 0, _, _ | 1, _, _ | 2, _, _ | 3, _, _ | 4, _, _ | 5, _, _ | 6, _, _ | 7, _, _ | 8, _, _ | 9, _, _ | 10, _, _ | 11, _, _ | 13, _, _ | 14, _, _ | 15, _, _ | 16, _, _ => rfl
  | 12, _, h => exact absurd rfl h
  | j + 17, h, _ => exact absurd h (by omega)
theorem Rep.names (R : Rep K c S H) {p : Nat} (v : Option Nat) :
    Rep K c { S with m := { S.m with names := up S.m.names p v } } (L2.upd H (c.A 13) (.lst ((mkL (c.B * c.P) fun p => optI (S.m.names p)).set p (optI v)))) := by
  refine R.upd (i := 13) (by decide) ?_ (fun j hj hne => ?_) R.tup R.dic
  · rw [mkL_set]
    refine congrArg HO.lst (mkL_congr fun i _ => ?_)
    show optI (up S.m.names p v i) = _
    unfold up
    split <;> rfl
  · match j, hj, hne with
    | 0, _, _ | 1, _, _ | 2, _, _ | 3, _, _ | 4, _, _ | 5, _, _ | 6, _, _ | 7, _, _ | 8, _, _ | 9, _, _ | 10, _, _ | 11, _, _ | 12, _, _ | 14, _, _ | 15, _, _ | 16, _, _ => rfl
    | 13, _, h => exact absurd rfl h
    | j + 17, h, _ => exact absurd h (by omega)
theorem Rep.live (R : Rep K c S H) {b v : Nat} {z : Int} (hz : z = ((v : Nat) : Int)) :
    Rep K c { S with m := { S.m with live := up S.m.live b v } } (L2.upd H (c.A 14) (.lst ((mkL c.B fun b => .int (S.m.live b : Nat)).set b (.int z)))) := by
  refine R.upd (i := 14) (by decide) ?_ (fun j hj hne => ?_) R.tup R.dic
  · rw [mkL_set]
    exact congrArg HO.lst (mkL_congr fun i _ => (upd_up hz).symm)
  · match j, hj, hne with
    | 0, _, _ | 1, _, _ | 2, _, _ | 3, _, _ | 4, _, _ | 5, _, _ | 6, _, _ | 7, _, _ | 8, _, _ | 9, _, _ | 10, _, _ | 11, _, _ | 12, _, _ | 13, _, _ | 15, _, _ | 16, _, _ => rfl
    | 14, _, h => exact absurd rfl h
    | j + 17, h, _ => exact absurd h (by omega)
theorem Rep.filled (R : Rep K c S H) {b v : Nat} {z : Int} (hz : z = ((v : Nat) : Int)) :
    Rep K c { S with m := { S.m with filled := up S.m.filled b v } } (L2.upd H (c.A 15) (.lst ((mkL c.B fun b => .int (S.m.filled b : Nat)).set b (.int z)))) := by
  refine R.upd (i := 15) (by decide) ?_ (fun j hj hne => ?_) R.tup R.dic
  · rw [mkL_set]
    exact congrArg HO.lst (mkL_congr fun i _ => (upd_up hz).symm)
  · match j, hj, hne with
    | 0, _, _ | 1, _, _ | 2, _, _ | 3, _, _ | 4, _, _ | 5, _, _ | 6, _, _ | 7, _, _ | 8, _, _ | 9, _, _ | 10, _, _ | 11, _, _ | 12, _, _ | 13, _, _ | 14, _, _ | 16, _, _ => rfl
    | 15, _, h => exact absurd rfl h
    | j + 17, h, _ => exact absurd h (by omega)
theorem Rep.born (R : Rep K c S H) {b : Nat} (z : Int) :
    Rep K c { S with m := { S.m with born := up S.m.born b z } } (L2.upd H (c.A 16) (.lst ((mkL c.B fun b => .int (S.m.born b)).set b (.int z)))) := by
  refine R.upd (i := 16) (by decide) ?_ (fun j hj hne => ?_) R.tup R.dic
  · rw [mkL_set]
    refine congrArg HO.lst (mkL_congr fun i _ => ?_)
    show V.int (up S.m.born b z i) = _
    unfold up
    split <;> rfl
  · match j, hj, hne with
    | 0, _, _ | 1, _, _ | 2, _, _ | 3, _, _ | 4, _, _ | 5, _, _ | 6, _, _ | 7, _, _ | 8, _, _ | 9, _, _ | 10, _, _ | 11, _, _ | 12, _, _ | 13, _, _ | 14, _, _ | 15, _, _ => rfl
    | 16, _, h => exact absurd rfl h
    | j + 17, h, _ => exact absurd h (by omega)
theorem putF_stamp {z y : Int} : putF "stamp" (.int y) (fBook c z) = fBook c y := by kernel_rfl
theorem Rep.stamp (R : Rep K c S H) (z : Int) : Rep K c { S with m := { S.m with stamp := z } } (L2.upd H (c.A 3) (.ins (He.ga K "Book") (c.D 3) (putF "stamp" (.int z) (fBook c S.m.stamp)))) := by
  refine R.upd (i := 3) (by decide) ?_ (fun j hj hne => ?_) R.tup R.dic
  · rw [putF_stamp] <;> rfl
  · match j, hj, hne with
    | 0, _, _ | 1, _, _ | 2, _, _ | 4, _, _ | 5, _, _ | 6, _, _ | 7, _, _ | 8, _, _ | 9, _, _ | 10, _, _ | 11, _, _ | 12, _, _ | 13, _, _ | 14, _, _ | 15, _, _ | 16, _, _ => rfl
    | 3, _, h => exact absurd rfl h
    | j + 17, h, _ => exact absurd h (by omega)
end
end Wp
namespace Wp
open PySem PySem.Spec PyProof.Rows L2
def spWhole : Sp := fun vs H Q _ => ∃ n : Int, vs = [.int n] ∧ Q (.bl true) H
def spWithin : Sp := fun vs H Q _ => ∃ t lo hi : Int, vs = [.int t, .int lo, .int hi] ∧ ∀ b : Bool, (b = true ↔ lo ≤ t ∧ t ≤ hi) → Q (.bl b) H
/-- mark_of: some number -/
def spMark : Sp := fun vs H Q _ => ∃ a b : Int, vs = [.int a, .int b] ∧ a.natAbs < 2 ^ 64 ∧ ∀ k : Int, Q (.int k) H
def spNeedPage (K : PySem.W.Frag) : Sp := fun vs H Q _ => ∃ (c : Cf) (S : WS) (p : Nat), vs = [.ref (c.A 1), .int p] ∧ Rep K c S H ∧ p < c.B * c.P ∧ Q .non H
def spNeedBlock (K : PySem.W.Frag) : Sp := fun vs H Q _ => ∃ (c : Cf) (S : WS) (b : Nat), vs = [.ref (c.A 1), .int b] ∧ Rep K c S H ∧ b < c.B ∧ Q .non H
def spDark (K : PySem.W.Frag) : Sp := fun vs H Q _ => ∃ (c : Cf) (S : WS), vs = [.ref (c.A 1)] ∧ Rep K c S H ∧ Q (.bl false) H
def spPower (K : PySem.W.Frag) : Sp := fun vs H Q _ => ∃ (c : Cf) (S : WS), vs = [.ref (c.A 1)] ∧ Rep K c S H ∧ Q .non H
def spCleared (K : PySem.W.Frag) : Sp := fun vs H Q _ => ∃ (c : Cf) (S : WS) (b : Nat), vs = [.ref (c.A 1), .int b] ∧ Rep K c S H ∧ b < c.B ∧ Q (.int (S.m.clr b : Nat)) H
def spFailed (K : PySem.W.Frag) : Sp := fun vs H Q _ => ∃ (c : Cf) (S : WS) (b : Nat), vs = [.ref (c.A 1), .int b] ∧ Rep K c S H ∧ b < c.B ∧ Q (.bl false) H
def spReadC (K : PySem.W.Frag) : Sp := fun vs H Q _ => ∃ (c : Cf) (S : WS) (p : Nat), vs = [.ref (c.A 1), .int p] ∧ Rep K c S H ∧ p < c.B * c.P ∧ Q (optR (S.m.stuff p)) H
def spGoesWell (K : PySem.W.Frag) : Sp := fun vs H Q _ => ∃ (c : Cf) (S : WS) (b : Nat), vs = [.ref (c.A 1), .int b, .bl false] ∧ Rep K c S H ∧ b < c.B ∧
  ∀ H', Rep K c { S with m := { S.m with tried := up S.m.tried b (S.m.tried b + 1) } } H' → Fr c H H' → Q (.bl true) H'
def spPutC (K : PySem.W.Frag) : Sp := fun vs H Q _ => ∃ (c : Cf) (S : WS) (p : Nat) (t : Addr) (k z : Int), vs = [.ref (c.A 1), .int p, .ref t] ∧ Rep K c S H ∧ p < c.B * c.P ∧ S.m.stuff p = none ∧ H t = some (.tup [.int k, .int z]) ∧ S.log.length ≤ 100000 ∧
  ∀ x H', Rep K c { S with m := chipPut c.P S.m p t z, log := S.log ++ [x] } H' → Fr c H H' → Q .non H'
def spWipeC (K : PySem.W.Frag) : Sp := fun vs H Q _ => ∃ (c : Cf) (S : WS) (b : Nat), vs = [.ref (c.A 1), .int b] ∧ Rep K c S H ∧ b < c.B ∧ S.m.clr b ≤ 100000 ∧ S.log.length ≤ 100000 ∧
  ∀ x H', Rep K c { S with m := chipWipe c.P S.m b, log := S.log ++ [x] } H' → Fr c H H' → Q .non H'
section
variable {P : Program} {w : World} {K : PySem.W.Frag} {mg : Str → Option Value} {base : Heap}
theorem sc_is_whole : FnScope ["thing"] ["thing"] (defScope sis_whole) := ⟨rfl, rfl, rfl, by decide +kernel, rfl, by decide +kernel, by decide +kernel⟩
theorem ok_is_whole (T : Txt K mg) : C8.Cal P w K mg base 1 "is_whole" (spWhole) [] := by
  refine cal T.g_is_whole T.d_is_whole (ps := ["thing"]) (fun _ _ _ _ _ _ us hl => match us, hl with | [_], _ => rfl) sc_is_whole (fun vs H Q E h => by obtain ⟨_, rfl, _⟩ := h; rfl) (fun cdv A outer s H vs Q E hr h => ?_)
  obtain ⟨n, rfl, k⟩ := h
  refine ⟨_, pss_one (ps_ret (pe_and (pe_callB call_isi (by rfl) T.z_isinstance (by decide +kernel) (pa_cons (pv 0) (pa_cons (pe_bltn (v := .ty "int") (by rfl) T.z_int (by decide +kernel) rfl) pa_nil)))
    (pe_one (pe_not (pe_callB call_isi (by rfl) T.z_isinstance (by decide +kernel) (pa_cons (pv 0) (pa_cons (pe_bltn (v := .ty "bool") (by rfl) T.z_bool (by decide +kernel) rfl) pa_nil))))))), ?_⟩
  refine ⟨.int n, rfl, .int n, .ty "int", .type "int", .type "int", true, rfl, .ty "int", .base (.int n), kit_ty (by decide +kernel), true, rfl, iteT ?_⟩
  exact ⟨.int n, rfl, .int n, .ty "bool", .type "int", .type "bool", false, rfl, .ty "bool", .base (.int n), kit_ty (by decide +kernel), false, rfl, k⟩
theorem sc_is_within : FnScope ["thing", "low", "high"] ["thing", "low", "high"] (defScope sis_within) := ⟨rfl, rfl, rfl, by decide +kernel, rfl, by decide +kernel, by decide +kernel⟩
theorem ok_is_within (T : Txt K mg) : C8.Cal P w K mg base 2 "is_within" (spWithin) [] := by
  refine cal T.g_is_within T.d_is_within (ps := ["thing", "low", "high"]) (fun _ _ _ _ _ _ us hl => match us, hl with | [_, _, _], _ => rfl) sc_is_within (fun vs H Q E h => by obtain ⟨_, _, _, rfl, _⟩ := h; rfl) (fun cdv A outer s H vs Q E hr h => ?_)
  obtain ⟨t, lo, hi, rfl, k⟩ := h
  refine ⟨_, pss_one (ps_ret (pe_and (C8.pe_c (ok_is_whole T) hr (by decide) rfl (pa_cons (pv 0) pa_nil)) (pe_one (pe_chain op_le op_le (pv 1) (pv 0) (pv 2))))), ?_⟩
  refine ⟨.int t, rfl, t, rfl, true, rfl, iteT ?_⟩
  refine ⟨_, rfl, _, rfl, lo, t, rfl, rfl, _, rfl, ite2 (fun h1 => ?_) (fun h1 => ?_)⟩
  · have h1 := of_decide_eq_true h1
    refine ⟨_, rfl, t, hi, rfl, rfl, k _ ?_⟩
    simp [h1]
  · have h1 : ¬ lo ≤ t := fun z => h1 (decide_eq_true z)
    exact k false (by simp [h1])
theorem sc_mark_of : FnScope ["stamp", "name"] ["stamp", "name"] (defScope smark_of) := ⟨rfl, rfl, rfl, by decide +kernel, rfl, by decide +kernel, by decide +kernel⟩
theorem ok_mark_of (T : Txt K mg) : C8.Cal P w K mg base 1 "mark_of" (spMark) [] := by
  refine cal T.g_mark_of T.d_mark_of (ps := ["stamp", "name"]) (fun _ _ _ _ _ _ us hl => match us, hl with | [_, _], _ => rfl) sc_mark_of (fun vs H Q E h => by obtain ⟨_, _, rfl, _⟩ := h; rfl) (fun cdv A outer s H vs Q E hr h => ?_)
  obtain ⟨a, b, rfl, ha, k⟩ := h
  refine ⟨_, pss_one (ps_ret (pe_op op_or (pe_op op_shl (pv 0) pe_int) (pv 1))), ?_⟩
  exact ⟨_, rfl, _, _, rfl, rfl, ⟨by decide, by decide, ha⟩, _, rfl, _, _, rfl, rfl, k _⟩
theorem sc_Chip_need_page : FnScope ["self", "page"] ["self", "page"] (defScope sChip_need_page) := ⟨rfl, rfl, rfl, by decide +kernel, rfl, by decide +kernel, by decide +kernel⟩
theorem ok_Chip_need_page (T : Txt K mg) : C8.Met P w K mg base 3 (He.ga K "Chip") "need_page" (spNeedPage K) [] := by
  refine met T.c_Chip T.mChip_need_page T.dChip_need_page (ps := ["self", "page"]) (fun _ _ _ _ _ _ us hl => match us, hl with | [_, _], _ => rfl) sc_Chip_need_page (fun vs H Q E h => by obtain ⟨_, _, _, rfl, _⟩ := h; rfl) (fun cdv A outer s H vs Q E hr h => ?_)
  obtain ⟨c, S, p, rfl, R, hp, k⟩ := h
  refine ⟨_, pss_one (ps_if (pt_not (pt_val (C8.pe_c (ok_is_within T) hr (by decide) rfl (pa_cons (pv 1) (pa_cons pe_int (pa_cons (pe_op op_sub (pe_callB call_len_seq (by rfl) T.z_len PySem.boot_len (pa_cons (pe_fld (pv 0) rfl) pa_nil)) pe_int) pa_nil)))))) pss_never pss_nil), ?_⟩
  refine ⟨_, rfl, _, rfl, _, _, _, _, _, rfl, R.at_ 1 (by decide), T.c_Chip, T.nChip_stuff, lk_Chip_stuff, _, _, rfl, .inl (SqL.of (R.at_ 7 (by decide))), _, _, rfl, rfl, _, _, _, rfl, fun b hb => ?_⟩
  have : b = true := hb.mpr ⟨by omega, by rw [mkL_len]; omega⟩
  subst this
  exact ⟨true, rfl, iteF k⟩
theorem sc_Chip_need_block : FnScope ["self", "block"] ["self", "block"] (defScope sChip_need_block) := ⟨rfl, rfl, rfl, by decide +kernel, rfl, by decide +kernel, by decide +kernel⟩
theorem ok_Chip_need_block (T : Txt K mg) : C8.Met P w K mg base 3 (He.ga K "Chip") "need_block" (spNeedBlock K) [] := by
  refine met T.c_Chip T.mChip_need_block T.dChip_need_block (ps := ["self", "block"]) (fun _ _ _ _ _ _ us hl => match us, hl with | [_, _], _ => rfl) sc_Chip_need_block (fun vs H Q E h => by obtain ⟨_, _, _, rfl, _⟩ := h; rfl) (fun cdv A outer s H vs Q E hr h => ?_)
  obtain ⟨c, S, p, rfl, R, hp, k⟩ := h
  refine ⟨_, pss_one (ps_if (pt_not (pt_val (C8.pe_c (ok_is_within T) hr (by decide) rfl (pa_cons (pv 1) (pa_cons pe_int (pa_cons (pe_op op_sub (pe_fld (pv 0) rfl) pe_int) pa_nil)))))) pss_never pss_nil), ?_⟩
  refine ⟨_, rfl, _, rfl, _, _, _, _, _, rfl, R.at_ 1 (by decide), T.c_Chip, T.nChip_blocks, lk_Chip_blocks, _, _, rfl, rfl, _, _, _, rfl, fun b hb => ?_⟩
  have : b = true := hb.mpr ⟨by omega, by omega⟩
  subst this
  exact ⟨true, rfl, iteF k⟩
theorem sc_Chip_is_dark : FnScope ["self"] ["self"] (defScope sChip_is_dark) := ⟨rfl, rfl, rfl, by decide +kernel, rfl, by decide +kernel, by decide +kernel⟩
theorem ok_Chip_is_dark (T : Txt K mg) : C8.Met P w K mg base 1 (He.ga K "Chip") "is_dark" (spDark K) [] := by
  refine met T.c_Chip T.mChip_is_dark T.dChip_is_dark (ps := ["self"]) (fun _ _ _ _ _ _ us hl => match us, hl with | [_], _ => rfl) sc_Chip_is_dark (fun vs H Q E h => by obtain ⟨_, _, rfl, _⟩ := h; rfl) (fun cdv A outer s H vs Q E hr h => ?_)
  obtain ⟨c, S, rfl, R, k⟩ := h
  refine ⟨_, pss_one (ps_ret (pe_cmpR op_eq (pe_fld (pv 0) rfl) pe_int (nomark _))), ?_⟩
  refine ⟨_, rfl, _, _, _, _, _, rfl, R.at_ 1 (by decide), T.c_Chip, T.nChip_left, lk_Chip_left, rfl, ?_⟩
  show Q (V.bl (decide (V.non = V.int 0))) H
  rw [decide_eq_false (by intro z; cases z)]
  exact k
theorem sc_Chip_need_power : FnScope ["self"] ["self"] (defScope sChip_need_power) := ⟨rfl, rfl, rfl, by decide +kernel, rfl, by decide +kernel, by decide +kernel⟩
theorem ok_Chip_need_power (T : Txt K mg) : C8.Met P w K mg base 2 (He.ga K "Chip") "need_power" (spPower K) [] := by
  refine met T.c_Chip T.mChip_need_power T.dChip_need_power (ps := ["self"]) (fun _ _ _ _ _ _ us hl => match us, hl with | [_], _ => rfl) sc_Chip_need_power (fun vs H Q E h => by obtain ⟨_, _, rfl, _⟩ := h; rfl) (fun cdv A outer s H vs Q E hr h => ?_)
  obtain ⟨c, S, rfl, R, k⟩ := h
  refine ⟨_, pss_one (ps_if (pt_val (C8.pe_mt0 (ok_Chip_is_dark T) hr (by decide) (pv 0))) pss_never pss_nil), ?_⟩
  exact ⟨_, rfl, _, _, _, rfl, R.at_ 1 (by decide), ln_Chip_is_dark, c, S, rfl, R, false, rfl, iteF k⟩
theorem sc_Chip_need_good : FnScope ["self", "block"] ["self", "block"] (defScope sChip_need_good) := ⟨rfl, rfl, rfl, by decide +kernel, rfl, by decide +kernel, by decide +kernel⟩
theorem ok_Chip_need_good (T : Txt K mg) : C8.Met P w K mg base 1 (He.ga K "Chip") "need_good" (spNeedBlock K) [] := by
  refine met T.c_Chip T.mChip_need_good T.dChip_need_good (ps := ["self", "block"]) (fun _ _ _ _ _ _ us hl => match us, hl with | [_, _], _ => rfl) sc_Chip_need_good (fun vs H Q E h => by obtain ⟨_, _, _, rfl, _⟩ := h; rfl) (fun cdv A outer s H vs Q E hr h => ?_)
  obtain ⟨c, S, b, rfl, R, hb, k⟩ := h
  refine ⟨_, pss_one (ps_if (pt_val (pe_ix ix_list (pe_fld (pv 0) rfl) (pv 1) (fun _ _ => rfl))) pss_never pss_nil), ?_⟩
  exact ⟨_, rfl, _, _, _, _, _, rfl, R.at_ 1 (by decide), T.c_Chip, T.nChip_broken, lk_Chip_broken, _, rfl, _, _, _, _, rfl, rfl, SqL.of (R.at_ 10 (by decide)), atI_nat (mkL_get hb), false, rfl, iteF k⟩
theorem sc_Chip_cleared : FnScope ["self", "block"] ["self", "block"] (defScope sChip_cleared) := ⟨rfl, rfl, rfl, by decide +kernel, rfl, by decide +kernel, by decide +kernel⟩
theorem ok_Chip_cleared (T : Txt K mg) : C8.Met P w K mg base 4 (He.ga K "Chip") "cleared" (spCleared K) [] := by
  refine met T.c_Chip T.mChip_cleared T.dChip_cleared (ps := ["self", "block"]) (fun _ _ _ _ _ _ us hl => match us, hl with | [_, _], _ => rfl) sc_Chip_cleared (fun vs H Q E h => by obtain ⟨_, _, _, rfl, _⟩ := h; rfl) (fun cdv A outer s H vs Q E hr h => ?_)
  obtain ⟨c, S, b, rfl, R, hb, k⟩ := h
  refine ⟨_, pss_cons (ps_expr (C8.pe_mt (ok_Chip_need_block T) hr (by decide) (pv 0) (pa_cons (pv 1) pa_nil))) (pss_one (ps_ret (pe_ix ix_list (pe_fld (pv 0) rfl) (pv 1) (fun _ _ => rfl)))), ?_⟩
  refine ⟨_, rfl, _, _, _, rfl, R.at_ 1 (by decide), ln_Chip_need_block, _, rfl, c, S, b, rfl, R, hb, ?_⟩
  exact ⟨_, rfl, _, _, _, _, _, rfl, R.at_ 1 (by decide), T.c_Chip, T.nChip_clearings, lk_Chip_clearings, _, rfl, _, _, _, _, rfl, rfl, SqL.of (R.at_ 9 (by decide)), atI_nat (mkL_get hb), k⟩
theorem sc_Chip_failed : FnScope ["self", "block"] ["self", "block"] (defScope sChip_failed) := ⟨rfl, rfl, rfl, by decide +kernel, rfl, by decide +kernel, by decide +kernel⟩
theorem ok_Chip_failed (T : Txt K mg) : C8.Met P w K mg base 4 (He.ga K "Chip") "failed" (spFailed K) [] := by
  refine met T.c_Chip T.mChip_failed T.dChip_failed (ps := ["self", "block"]) (fun _ _ _ _ _ _ us hl => match us, hl with | [_, _], _ => rfl) sc_Chip_failed (fun vs H Q E h => by obtain ⟨_, _, _, rfl, _⟩ := h; rfl) (fun cdv A outer s H vs Q E hr h => ?_)
  obtain ⟨c, S, b, rfl, R, hb, k⟩ := h
  refine ⟨_, pss_cons (ps_expr (C8.pe_mt (ok_Chip_need_block T) hr (by decide) (pv 0) (pa_cons (pv 1) pa_nil))) (pss_one (ps_ret (pe_ix ix_list (pe_fld (pv 0) rfl) (pv 1) (fun _ _ => rfl)))), ?_⟩
  refine ⟨_, rfl, _, _, _, rfl, R.at_ 1 (by decide), ln_Chip_need_block, _, rfl, c, S, b, rfl, R, hb, ?_⟩
  exact ⟨_, rfl, _, _, _, _, _, rfl, R.at_ 1 (by decide), T.c_Chip, T.nChip_broken, lk_Chip_broken, _, rfl, _, _, _, _, rfl, rfl, SqL.of (R.at_ 10 (by decide)), atI_nat (mkL_get hb), k⟩
theorem sc_Chip_read : FnScope ["self", "page"] ["self", "page"] (defScope sChip_read) := ⟨rfl, rfl, rfl, by decide +kernel, rfl, by decide +kernel, by decide +kernel⟩
theorem ok_Chip_read (T : Txt K mg) : C8.Met P w K mg base 4 (He.ga K "Chip") "read" (spReadC K) [] := by
  refine met T.c_Chip T.mChip_read T.dChip_read (ps := ["self", "page"]) (fun _ _ _ _ _ _ us hl => match us, hl with | [_, _], _ => rfl) sc_Chip_read (fun vs H Q E h => by obtain ⟨_, _, _, rfl, _⟩ := h; rfl) (fun cdv A outer s H vs Q E hr h => ?_)
  obtain ⟨c, S, p, rfl, R, hp, k⟩ := h
  refine ⟨_, pss_cons (ps_expr (C8.pe_mt (ok_Chip_need_page T) hr (by decide) (pv 0) (pa_cons (pv 1) pa_nil))) (pss_cons (ps_expr (C8.pe_mt0 (ok_Chip_need_power T) hr (by decide) (pv 0))) (pss_one (ps_ret (pe_ix ix_list (pe_fld (pv 0) rfl) (pv 1) (fun _ _ => rfl))))), ?_⟩
  refine ⟨_, rfl, _, _, _, rfl, R.at_ 1 (by decide), ln_Chip_need_page, _, rfl, c, S, p, rfl, R, hp, ?_⟩
  refine ⟨_, rfl, _, _, _, rfl, R.at_ 1 (by decide), ln_Chip_need_power, c, S, rfl, R, ?_⟩
  exact ⟨_, rfl, _, _, _, _, _, rfl, R.at_ 1 (by decide), T.c_Chip, T.nChip_stuff, lk_Chip_stuff, _, rfl, _, _, _, _, rfl, rfl, SqL.of (R.at_ 7 (by decide)), atI_nat (mkL_get hp), k⟩
end
end Wp
namespace Wp
open PySem PySem.Spec PyProof.Rows L2
section
variable {P : Program} {w : World} {K : PySem.W.Frag} {mg : Str → Option Value} {base : Heap}
theorem sc_Chip_goes_well : FnScope ["self", "block", "worn", "well"] ["self", "block", "worn"] (defScope sChip_goes_well) := ⟨rfl, rfl, rfl, by decide +kernel, rfl, by decide +kernel, by decide +kernel⟩
theorem ok_Chip_goes_well (T : Txt K mg) : C8.Met P w K mg base 1 (He.ga K "Chip") "goes_well" (spGoesWell K) [] := by
  refine met T.c_Chip T.mChip_goes_well T.dChip_goes_well (ps := ["self", "block", "worn"]) (fun _ _ _ _ _ _ us hl => match us, hl with | [_, _, _], _ => rfl) sc_Chip_goes_well (fun vs H Q E h => by obtain ⟨_, _, _, rfl, _⟩ := h; rfl) (fun cdv A outer s H vs Q E hr h => ?_)
  obtain ⟨c, S, b, rfl, R, hb, k⟩ := h
  refine ⟨_, pss_cons (ps_if (pt_cmpR op_notN (pe_fld (pv 0) rfl) pe_non (nomark _)) pss_never pss_nil)
    (pss_cons (ps_set (i := 3) sc_Chip_goes_well.nd rfl (.inl rfl) (pe_and (pe_not (pv 2)) (pe_one (pe_cmpR op_ne (pe_ix ix_list (pe_fld (pv 0) rfl) (pv 1) (fun _ _ => rfl)) (pe_ix ix_list (pe_fld (pv 0) rfl) (pv 1) (fun _ _ => rfl)) (nomark _)))))
    (pss_cons (ps_augS (pe_fld (pv 0) rfl) (pv 1) pget_list pe_int ip_add set_list)
    (pss_cons (ps_asg (pe_not (pv 3)) (pg_sub (pe_fld (pv 0) rfl) (pv 1) set_list))
    (pss_one (ps_ret (pv 3)))))), ?_⟩
  refine ⟨_, rfl, _, _, _, _, _, rfl, R.at_ 1 (by decide), T.c_Chip, T.nChip_left, lk_Chip_left, rfl, _, rfl, iteNS rfl ?_⟩
  refine ⟨_, rfl, _, rfl, true, rfl, iteT ?_⟩
  refine ⟨_, rfl, _, _, _, _, _, rfl, R.at_ 1 (by decide), T.c_Chip, T.nChip_tried, lk_Chip_tried, _, rfl, _, _, _, _, rfl, rfl, SqL.of (R.at_ 8 (by decide)), atI_nat (mkL_get hb), _, rfl, _, _, _, _, _, rfl, R.at_ 1 (by decide), T.c_Chip, T.nChip_lasts, lk_Chip_lasts, _, rfl, _, _, _, _, rfl, rfl, SqL.of (R.at_ 6 (by decide)), atI_nat (mkL_get hb), rfl, ?_⟩
  have e : (!decide (V.int (S.m.tried b : Nat) = V.non)) = true := by rw [decide_eq_false (by intro z; cases z)]; rfl
  rw [e]
  refine ⟨_, rfl, _, _, _, _, _, rfl, R.at_ 1 (by decide), T.c_Chip, T.nChip_tried, lk_Chip_tried, _, rfl, _, _, _, _, rfl, rfl, SqL.of (R.at_ 8 (by decide)), mkL_get hb, _, _, rfl, rfl, _, _, _, _, rfl, rfl, R.at_ 8 (by decide), (by rw [mkL_len]; exact ixN_nat hb), ?_⟩
  have R1 := R.tried (b := b) (v := S.m.tried b + 1) (z := (S.m.tried b : Int) + 1) rfl
  refine ⟨_, rfl, _, rfl, _, rfl, _, _, _, _, _, rfl, R1.at_ 1 (by decide), T.c_Chip, T.nChip_broken, lk_Chip_broken, _, rfl, _, _, _, _, rfl, rfl, R1.at_ 10 (by decide), (by rw [mkL_len]; exact ixN_nat hb), ?_⟩
  exact ⟨_, rfl, k _ (R1.broken (b := b)) (Fr.trans (Fr.upd (by decide)) (Fr.upd (by decide)))⟩
theorem sc_Chip_put : FnScope ["self", "page", "stuff", "block", "well"] ["self", "page", "stuff"] (defScope sChip_put) := ⟨rfl, rfl, rfl, by decide +kernel, rfl, by decide +kernel, by decide +kernel⟩
theorem ok_Chip_put (T : Txt K mg) : C8.Met P w K mg base 5 (He.ga K "Chip") "put" (spPutC K) [] := by
  refine met T.c_Chip T.mChip_put T.dChip_put (ps := ["self", "page", "stuff"]) (fun _ _ _ _ _ _ us hl => match us, hl with | [_, _, _], _ => rfl) sc_Chip_put (fun vs H Q E h => by obtain ⟨_, _, _, _, _, _, rfl, _⟩ := h; rfl) (fun cdv A outer s H vs Q E hr h => ?_)
  obtain ⟨c, S, p, t, kk, z, rfl, R, hp, hs, ht, hl, k⟩ := h
  have hP := R.ok.P1
  have hP2 := R.ok.P2
  have hb : p / c.P < c.B := pg_blk hp
  refine ⟨_, pss_cons (ps_expr (C8.pe_mt (ok_Chip_need_page T) hr (by decide) (pv 0) (pa_cons (pv 1) pa_nil)))
    (pss_cons (ps_expr (C8.pe_mt0 (ok_Chip_need_power T) hr (by decide) (pv 0)))
    (pss_cons (ps_set (i := 3) sc_Chip_put.nd rfl (.inl rfl) (pe_op op_divNat (pv 1) (pe_fld (pv 0) rfl)))
    (pss_cons (ps_expr (C8.pe_mt (ok_Chip_need_good T) hr (by decide) (pv 0) (pa_cons (pv 3) pa_nil)))
    (pss_cons (ps_if (pt_cmpR op_notN (pe_ix ix_list (pe_fld (pv 0) rfl) (pv 1) (fun _ _ => rfl)) pe_non (nomark _)) pss_never pss_nil)
    (pss_cons (ps_set (i := 4) sc_Chip_put.nd rfl (.inl rfl) (C8.pe_mt (ok_Chip_goes_well T) hr (by decide) (pv 0) (pa_cons (pv 3) (pa_cons pe_bl pa_nil))))
    (pss_cons (ps_expr (pe_bm PySem.F.plainAttrs_list PySem.F.slot_list_append PySem.F.type_list_append mt_append (pe_fld (pv 0) rfl) (pa_cons (pe_tup (pa_cons pe_str (pa_cons (pv 1) (pa_cons (pv 4) pa_nil)))) pa_nil)))
    (pss_cons (ps_if (pt_not (pt_val (pv 4))) pss_never pss_nil)
    (pss_one (ps_asg (pv 2) (pg_sub (pe_fld (pv 0) rfl) (pv 1) set_list)))))))))), ?_⟩
  refine ⟨_, rfl, _, _, _, rfl, R.at_ 1 (by decide), ln_Chip_need_page, _, rfl, c, S, p, rfl, R, hp, ?_⟩
  refine ⟨_, rfl, _, _, _, rfl, R.at_ 1 (by decide), ln_Chip_need_power, c, S, rfl, R, ?_⟩
  refine ⟨_, rfl, _, rfl, _, _, _, _, _, rfl, R.at_ 1 (by decide), T.c_Chip, T.nChip_pages, lk_Chip_pages, _, _, rfl, rfl, ⟨by omega, by omega⟩, ?_⟩
  refine ⟨_, rfl, _, _, _, rfl, R.at_ 1 (by decide), ln_Chip_need_good, _, rfl, c, S, _, rfl, R, hb, ?_⟩
  refine ⟨_, rfl, _, _, _, _, _, rfl, R.at_ 1 (by decide), T.c_Chip, T.nChip_stuff, lk_Chip_stuff, _, rfl, _, _, _, _, rfl, rfl, SqL.of (R.at_ 7 (by decide)), atI_nat (mkL_get hp), rfl, _, rfl, ?_⟩
  rw [hs]
  refine iteNS rfl ?_
  refine ⟨_, rfl, _, _, _, rfl, R.at_ 1 (by decide), ln_Chip_goes_well, _, rfl, c, S, _, rfl, R, hb, fun H1 R1 F1 => ?_⟩
  refine ⟨_, rfl, _, _, _, _, _, rfl, R1.at_ 1 (by decide), T.c_Chip, T.nChip_log, lk_Chip_log, .inl ⟨rfl, _, SqL.of (R1.at_ 11 (by decide))⟩, _, rfl, _, rfl, (by show 3 ≤ sizeLine; decide), fun q hq => ?_⟩
  have R2 := R1.same (same_new (o := .tup [.str "put", .int p, .bl true]) hq)
  refine ⟨_, _, _, rfl, rfl, R2.at_ 11 (by decide), Nat.lt_of_le_of_lt hl (by decide), ?_⟩
  have R3 := R2.log (S.log ++ [.ref q])
  refine ⟨_, rfl, true, rfl, iteF ?_⟩
  refine ⟨_, rfl, _, rfl, _, _, _, _, _, rfl, R3.at_ 1 (by decide), T.c_Chip, T.nChip_stuff, lk_Chip_stuff, _, rfl, _, _, _, _, rfl, rfl, R3.at_ 7 (by decide), (by rw [mkL_len]; exact ixN_nat hp), ?_⟩
  have F3 : Fr c H (upd (upd H1 q (.tup [.str "put", .int p, .bl true])) (c.A 11) (.lst (S.log ++ [.ref q]))) := Fr.trans F1 (Fr.trans (Fr.same (same_new hq)) (Fr.upd (by decide)))
  exact k (.ref q) _ (R3.stuff hp (some (t, z)) fun t' z' e => by cases e; exact ⟨kk, F3.tup R ht⟩) (Fr.trans F3 (Fr.upd (by decide)))
theorem sc_Chip_wipe : FnScope ["self", "block", "well", "place"] ["self", "block"] (defScope sChip_wipe) := ⟨rfl, rfl, rfl, by decide +kernel, rfl, by decide +kernel, by decide +kernel⟩
theorem ok_Chip_wipe (T : Txt K mg) : C8.Met P w K mg base 5 (He.ga K "Chip") "wipe" (spWipeC K) [] := by
  refine met T.c_Chip T.mChip_wipe T.dChip_wipe (ps := ["self", "block"]) (fun _ _ _ _ _ _ us hl => match us, hl with | [_, _], _ => rfl) sc_Chip_wipe (fun vs H Q E h => by obtain ⟨_, _, _, rfl, _⟩ := h; rfl) (fun cdv A outer s H vs Q E hr h => ?_)
  obtain ⟨c, S, b, rfl, R, hb, hc, hl, k⟩ := h
  have hP := R.ok.P1
  have hP2 := R.ok.P2
  have hB2 := R.ok.B2
  refine ⟨_, pss_cons (ps_expr (C8.pe_mt (ok_Chip_need_block T) hr (by decide) (pv 0) (pa_cons (pv 1) pa_nil)))
    (pss_cons (ps_expr (C8.pe_mt0 (ok_Chip_need_power T) hr (by decide) (pv 0)))
    (pss_cons (ps_expr (C8.pe_mt (ok_Chip_need_good T) hr (by decide) (pv 0) (pa_cons (pv 1) pa_nil)))
    (pss_cons (ps_set (i := 2) sc_Chip_wipe.nd rfl (.inl rfl) (C8.pe_mt (ok_Chip_goes_well T) hr (by decide) (pv 0) (pa_cons (pv 1) (pa_cons (pe_cmpR op_eq (pe_ix ix_list (pe_fld (pv 0) rfl) (pv 1) (fun _ _ => rfl)) (pe_fld (pv 0) rfl) (nomark _)) pa_nil))))
    (pss_cons (ps_expr (pe_bm PySem.F.plainAttrs_list PySem.F.slot_list_append PySem.F.type_list_append mt_append (pe_fld (pv 0) rfl) (pa_cons (pe_tup (pa_cons pe_str (pa_cons (pv 1) (pa_cons (pv 2) pa_nil)))) pa_nil)))
    (pss_cons (ps_if (pt_not (pt_val (pv 2))) pss_never pss_nil)
    (pss_cons (ps_augS (pe_fld (pv 0) rfl) (pv 1) pget_list pe_int ip_add set_list)
    (pss_one (ps_for PassesOwn.never rfl (pi_range1 (by rfl) T.z_range (pa_cons (pe_fld (pv 0) rfl) pa_nil)) (pg_name (i := 3) sc_Chip_wipe.nd rfl (Or.inl rfl))
      (pss_one (ps_asg pe_non (pg_sub (pe_fld (pv 0) rfl) (pe_op op_addNat (pe_op op_mulNat (pv 1) (pe_fld (pv 0) rfl)) (pv 3)) set_list))))))))))), ?_⟩
  refine ⟨_, rfl, _, _, _, rfl, R.at_ 1 (by decide), ln_Chip_need_block, _, rfl, c, S, b, rfl, R, hb, ?_⟩
  refine ⟨_, rfl, _, _, _, rfl, R.at_ 1 (by decide), ln_Chip_need_power, c, S, rfl, R, ?_⟩
  refine ⟨_, rfl, _, _, _, rfl, R.at_ 1 (by decide), ln_Chip_need_good, _, rfl, c, S, _, rfl, R, hb, ?_⟩
  refine ⟨_, rfl, _, _, _, rfl, R.at_ 1 (by decide), ln_Chip_goes_well, _, rfl, _, rfl, _, _, _, _, _, rfl, R.at_ 1 (by decide), T.c_Chip, T.nChip_clearings, lk_Chip_clearings, _, rfl, _, _, _, _, rfl, rfl, SqL.of (R.at_ 9 (by decide)), atI_nat (mkL_get hb), _, rfl, _, _, _, _, _, rfl, R.at_ 1 (by decide), T.c_Chip, T.nChip_most, lk_Chip_most, rfl, ?_⟩
  have e : decide (V.int (S.m.clr b : Nat) = V.int 1000000) = false := decide_eq_false (by intro z; have := V.int.inj z; omega)
  rw [e]
  refine ⟨c, S, _, rfl, R, hb, fun H1 R1 F1 => ?_⟩
  refine ⟨_, rfl, _, _, _, _, _, rfl, R1.at_ 1 (by decide), T.c_Chip, T.nChip_log, lk_Chip_log, .inl ⟨rfl, _, SqL.of (R1.at_ 11 (by decide))⟩, _, rfl, _, rfl, (by show 3 ≤ sizeLine; decide), fun q hq => ?_⟩
  have R2 := R1.same (same_new (o := .tup [.str "wipe", .int b, .bl true]) hq)
  refine ⟨_, _, _, rfl, rfl, R2.at_ 11 (by decide), Nat.lt_of_le_of_lt hl (by decide), ?_⟩
  have R3 := R2.log (S.log ++ [.ref q])
  refine ⟨_, rfl, true, rfl, iteF ?_⟩
  refine ⟨_, rfl, _, _, _, _, _, rfl, R3.at_ 1 (by decide), T.c_Chip, T.nChip_clearings, lk_Chip_clearings, _, rfl, _, _, _, _, rfl, rfl, SqL.of (R3.at_ 9 (by decide)), mkL_get hb, _, _, rfl, rfl, _, _, _, _, rfl, rfl, R3.at_ 9 (by decide), (by rw [mkL_len]; exact ixN_nat hb), ?_⟩
  have R4 := R3.clr (b := b) (v := S.m.clr b + 1) (z := (S.m.clr b : Int) + 1) rfl
  have F4 : Fr c H _ := Fr.trans F1 (Fr.trans (Fr.same (same_new (o := .tup [.str "wipe", .int b, .bl true]) hq)) (Fr.trans (Fr.upd (i := 11) (o := .lst (S.log ++ [.ref q])) (by decide)) (Fr.upd (i := 9) (o := .lst ((mkL c.B fun b => .int (S.m.clr b : Nat)).set b (.int ((S.m.clr b : Int) + 1)))) (by decide))))
  refine ⟨_, rfl, _, _, _, _, _, rfl, R4.at_ 1 (by decide), T.c_Chip, T.nChip_pages, lk_Chip_pages, _, rfl, by omega, by omega, ?_⟩
  refine for_range (lo := 0) (n := _) (fun i σ H5 => ∃ y : Option V, σ = [some (.ref (c.A 1)), some (.int b), some (.bl true), y] ∧ Fr c H H5 ∧
    Rep K c { S with m := { S.m with stuff := fun p => if p / c.P = b ∧ p % c.P < i then none else S.m.stuff p, tried := up S.m.tried b (S.m.tried b + 1), clr := up S.m.clr b (S.m.clr b + 1) }, log := S.log ++ [.ref q] } H5)
    ⟨none, rfl, F4, ?_⟩ (fun i σ H5 hi hI => ?_) (fun σ H5 hI => ?_)
  · have e : (fun p => if p / c.P = b ∧ p % c.P < 0 then none else S.m.stuff p) = S.m.stuff := by
      funext p
      rw [if_neg (by omega)]
    rw [e]
    exact R4
  · obtain ⟨y, rfl, F5, R5⟩ := hI
    have hi' : i < c.P := by omega
    have hpl := pg_lt hb hi'
    refine ⟨_, rfl, _, _, _, _, _, rfl, R5.at_ 1 (by decide), T.c_Chip, T.nChip_stuff, lk_Chip_stuff, _, rfl, _, rfl, _, _, _, _, _, rfl, R5.at_ 1 (by decide), T.c_Chip, T.nChip_pages, lk_Chip_pages, _, _, rfl, rfl, by omega, _, rfl, _, i, rfl, (congrArg V.int (Int.zero_add _)), _, _, _, _, rfl, rfl, R5.at_ 7 (by decide), (by rw [mkL_len]; exact ixN_nat hpl), ?_⟩
    refine ⟨_, rfl, Fr.trans F5 (Fr.upd (by decide)), ?_⟩
    have R6 := R5.stuff hpl none (fun t z e => by cases e)
    have e : up (fun p => if p / c.P = b ∧ p % c.P < i then none else S.m.stuff p) (b * c.P + i) none = fun p => if p / c.P = b ∧ p % c.P < i + 1 then none else S.m.stuff p := by
      funext p
      by_cases h : p = b * c.P + i
      · rw [h, up_same, pg_div hi', pg_mod hi', if_pos ⟨rfl, by omega⟩]
      · rw [up_ne h]
        by_cases h2 : p / c.P = b ∧ p % c.P < i + 1
        · have h3 : p % c.P ≠ i := fun z => h (by rw [← pg_eq p c.P, h2.1, z])
          rw [if_pos h2, if_pos ⟨h2.1, by omega⟩]
        · rw [if_neg h2, if_neg fun z => h2 ⟨z.1, by omega⟩]
    have R7 := R6
    dsimp only at R7
    rw [e] at R7
    exact R7
  · obtain ⟨y, rfl, F5, R5⟩ := hI
    have e : (fun p => if p / c.P = b ∧ p % c.P < ((c.P : Int).toNat) then none else S.m.stuff p) = fun p => if p / c.P = b then none else S.m.stuff p := by
      funext p
      have := pg_off (p := p) (P := c.P) (by omega)
      by_cases h : p / c.P = b
      · rw [if_pos ⟨h, by omega⟩, if_pos h]
      · rw [if_neg (fun z => h z.1), if_neg h]
    rw [e] at R5
    exact k _ _ R5 F5
end
end Wp
namespace Wp
open PySem PySem.Spec PyProof.Rows L2
theorem valV_drop {κ : Type} [DecidableEq κ] (k j : κ) : ∀ kvs : List (κ × V), valV (dropK kvs k) j = if j = k then none else valV kvs j
  | [] => by
    show valV ([] : List (κ × V)) j = _
    rw [valV_nil]
    split <;> rfl
  | p :: r => by
    have ih := valV_drop k j r
    by_cases e : p.1 = k
    · rw [dropK_pos e, ih]
      by_cases h : j = k
      · rw [if_pos h, if_pos h]
      · rw [if_neg h, if_neg h, valV_neg (fun z => h (z.symm.trans e))]
    · rw [dropK_neg e]
      by_cases h : p.1 = j
      · rw [valV_pos h, valV_pos h, if_neg (fun z => e (h.trans z))]
      · rw [valV_neg h, valV_neg h, ih]
theorem nat_inl {n m : Nat} (h : (Sum.inl (n : Int) : Key) = .inl (m : Int)) : n = m := by
  have := Sum.inl.inj h
  omega
section
variable {kvs : List (Key × V)} {whr : Nat → Option Nat}
theorem DictR.none_of (D : DictR kvs whr) {n : Nat} (h : whr n = none) : valV kvs (.inl (n : Int)) = none := by
  cases e : valV kvs (.inl (n : Int)) with
  | none => rfl
  | some v =>
    obtain ⟨m, p, e1, e2, e3⟩ := D.to _ _ e
    rw [← nat_inl e1, h] at e3
    cases e3
theorem DictR.drop (D : DictR kvs whr) (n : Nat) : DictR (dropK kvs (.inl (n : Int))) (up whr n none) := by
  refine ⟨nd_dropK D.nd, fun k v h => ?_, fun m p h => ?_⟩
  · rw [valV_drop] at h
    split at h
    · cases h
    · rename_i hne
      obtain ⟨m, p, e1, e2, e3⟩ := D.to k v h
      refine ⟨m, p, e1, e2, ?_⟩
      rw [up_ne fun z => hne (by rw [e1, z])]
      exact e3
  · by_cases e : m = n
    · rw [e, up_same] at h
      cases h
    · rw [up_ne e] at h
      rw [valV_drop, if_neg fun z => e (nat_inl z)]
      exact D.fr m p h
theorem DictR.put (D : DictR kvs whr) (n p : Nat) (hn : whr n = none) : DictR (putK kvs (.inl (n : Int)) (.int (p : Int))) (up whr n (some p)) := by
  refine ⟨nd_putK _ D.nd (D.none_of hn), fun k v h => ?_, fun m q h => ?_⟩
  · rw [valV_put] at h
    split at h
    · rename_i e
      exact ⟨n, p, e, (Option.some.inj h).symm, up_same⟩
    · rename_i hne
      obtain ⟨m, q, e1, e2, e3⟩ := D.to k v h
      refine ⟨m, q, e1, e2, ?_⟩
      rw [up_ne fun z => hne (by rw [e1, z])]
      exact e3
  · rw [valV_put]
    by_cases e : m = n
    · rw [e, up_same] at h
      rw [if_pos (by rw [e]), ← Option.some.inj h]
    · rw [up_ne e] at h
      rw [if_neg fun z => e (nat_inl z)]
      exact D.fr m q h
end
theorem nodup_cnt : ∀ (l : List Nat) (N : Nat), l.Nodup → (∀ x ∈ l, x < N) → l.length = cnt N fun i => decide (i ∈ l)
  | [], N, _, _ => (cnt_zero fun i _ => by simp).symm
  | a :: r, N, h, hN => by
    obtain ⟨h1, h2⟩ := List.nodup_cons.mp h
    have ih := nodup_cnt r N h2 fun x hx => hN x (List.mem_cons_of_mem _ hx)
    rw [List.length_cons, ih]
    refine (cnt_more (a := a) (hN a List.mem_cons_self) (by simp [h1]) (by simp) fun i hi => ?_).symm
    simp [hi]
/-- the keys as numbers -/
def keyN (k : Key) : Nat := match k with
  | .inl i => i.toNat
  | .inr _ => 0
theorem DictR.key {kvs : List (Key × V)} {whr : Nat → Option Nat} (D : DictR kvs whr) {k : Key} {v : V} (h : (k, v) ∈ kvs) : k = .inl (keyN k : Int) ∧ ∃ p, whr (keyN k) = some p := by
  have hs : (valV kvs k).isSome = true := by
    rw [← valV_any]
    exact List.any_eq_true.mpr ⟨(k, v), h, decide_eq_true rfl⟩
  obtain ⟨u, hu⟩ := Option.isSome_iff_exists.mp hs
  obtain ⟨n, p, e1, _, e3⟩ := D.to k u hu
  have e : keyN k = n := by
    rw [e1]
    show ((n : Int)).toNat = n
    omega
  rw [e]
  exact ⟨e1, p, e3⟩
theorem DictR.keys {kvs : List (Key × V)} {whr : Nat → Option Nat} (D : DictR kvs whr) : (kvs.map fun kv => keyN kv.1).Nodup ∧ ∀ n, n ∈ kvs.map (fun kv => keyN kv.1) ↔ (whr n).isSome = true := by
  constructor
  · have e : (kvs.map fun kv => keyN kv.1).map (fun n : Nat => (Sum.inl (n : Int) : Key)) = kvs.map (·.1) := by
      rw [List.map_map]
      refine List.map_congr_left fun kv hm => ?_
      exact (D.key (k := kv.1) (v := kv.2) hm).1.symm
    have h := D.nd
    rw [← e] at h
    exact List.Pairwise.of_map _ (fun a b hab z => hab (by rw [z])) h
  · intro n
    constructor
    · intro h
      obtain ⟨kv, hm, e⟩ := List.mem_map.mp h
      obtain ⟨_, p, hp⟩ := D.key (k := kv.1) (v := kv.2) hm
      rw [← e, hp]
      rfl
    · intro h
      obtain ⟨p, hp⟩ := Option.isSome_iff_exists.mp h
      have hv := D.fr n p hp
      have hs : (kvs.any fun kv => decide (kv.1 = .inl (n : Int))) = true := by
        rw [valV_any, hv]
        rfl
      obtain ⟨kv, hm, e⟩ := List.any_eq_true.mp hs
      refine List.mem_map.mpr ⟨kv, hm, ?_⟩
      rw [of_decide_eq_true e]
      show ((n : Int)).toNat = n
      omega
theorem DictR.len {kvs : List (Key × V)} {whr : Nat → Option Nat} (D : DictR kvs whr) (h : ∀ n p, whr n = some p → n < 65) : kvs.length ≤ 65 := by
  obtain ⟨h1, h2⟩ := D.keys
  have := nodup_cnt _ 65 h1 fun n hn => by
    obtain ⟨p, hp⟩ := Option.isSome_iff_exists.mp ((h2 n).mp hn)
    exact h n p hp
  rw [List.length_map] at this
  rw [this]
  exact cnt_le
/-- mark(name): some number -/
def spBMark (K : PySem.W.Frag) : Sp := fun vs H Q _ => ∃ (c : Cf) (S : WS) (n : Nat), vs = [.ref (c.A 3), .int n] ∧ Rep K c S H ∧ S.m.stamp.natAbs < 2 ^ 64 ∧ ∀ k : Int, Q (.int k) H
def spForget (K : PySem.W.Frag) : Sp := fun vs H Q _ => ∃ (c : Cf) (S : WS) (n : Nat), vs = [.ref (c.A 3), .int n] ∧ Rep K c S H ∧ (∀ q, S.m.whr n = some q → q < c.B * c.P ∧ 1 ≤ S.m.live (q / c.P)) ∧
  ∀ kvs H', Rep K c { S with m := forget c.P S.m n, kvs := kvs } H' → Fr c H H' → Q .non H'
def spNote (K : PySem.W.Frag) : Sp := fun vs H Q _ => ∃ (c : Cf) (S : WS) (p n : Nat), vs = [.ref (c.A 3), .int p, .int n] ∧ Rep K c S H ∧ p < c.B * c.P ∧ (∀ q, S.m.whr n = some q → q < c.B * c.P ∧ 1 ≤ S.m.live (q / c.P)) ∧ (∀ n p, S.m.whr n = some p → n < 65) ∧
  ∀ kvs H', Rep K c { S with m := note c.P S.m p n, kvs := kvs } H' → Fr c H H' → Q .non H'
def spEmptied (K : PySem.W.Frag) : Sp := fun vs H Q _ => ∃ (c : Cf) (S : WS) (b : Nat), vs = [.ref (c.A 3), .int b] ∧ Rep K c S H ∧ b < c.B ∧
  ∀ H', Rep K c { S with m := emptied S.m b } H' → Fr c H H' → Q .non H'
section
variable {P : Program} {w : World} {K : PySem.W.Frag} {mg : Str → Option Value} {base : Heap}
theorem sc_Book_mark : FnScope ["self", "name"] ["self", "name"] (defScope sBook_mark) := ⟨rfl, rfl, rfl, by decide +kernel, rfl, by decide +kernel, by decide +kernel⟩
theorem ok_Book_mark (T : Txt K mg) : C8.Met P w K mg base 2 (He.ga K "Book") "mark" (spBMark K) [] := by
  refine met T.c_Book T.mBook_mark T.dBook_mark (ps := ["self", "name"]) (fun _ _ _ _ _ _ us hl => match us, hl with | [_, _], _ => rfl) sc_Book_mark (fun vs H Q E h => by obtain ⟨_, _, _, rfl, _⟩ := h; rfl) (fun cdv A outer s H vs Q E hr h => ?_)
  obtain ⟨c, S, n, rfl, R, hs, k⟩ := h
  refine ⟨_, pss_one (ps_ret (C8.pe_c (ok_mark_of T) hr (by decide) rfl (pa_cons (pe_fld (pv 0) rfl) (pa_cons (pv 1) pa_nil)))), ?_⟩
  exact ⟨_, rfl, _, _, _, _, _, rfl, R.at_ 3 (by decide), T.c_Book, T.nBook_stamp, lk_Book_stamp, _, rfl, _, _, rfl, hs, k⟩
theorem sc_Book_forget : FnScope ["self", "name", "page"] ["self", "name"] (defScope sBook_forget) := ⟨rfl, rfl, rfl, by decide +kernel, rfl, by decide +kernel, by decide +kernel⟩
theorem ok_Book_forget (T : Txt K mg) : C8.Met P w K mg base 1 (He.ga K "Book") "forget" (spForget K) [] := by
  refine met T.c_Book T.mBook_forget T.dBook_forget (ps := ["self", "name"]) (fun _ _ _ _ _ _ us hl => match us, hl with | [_, _], _ => rfl) sc_Book_forget (fun vs H Q E h => by obtain ⟨_, _, _, rfl, _⟩ := h; rfl) (fun cdv A outer s H vs Q E hr h => ?_)
  obtain ⟨c, S, n, rfl, R, hq, k⟩ := h
  have hP := R.ok.P1
  have hP2 := R.ok.P2
  refine ⟨_, pss_one (ps_if (pt_cmp (pc_din (hu_of hr) (pv 1) (pe_fld (pv 0) rfl)))
    (pss_cons (ps_set (i := 2) sc_Book_forget.nd rfl (.inl rfl) (pe_dpop1 (pe_fld (pv 0) rfl) (pv 1) ⟨rfl, rfl, rfl, rfl⟩))
    (pss_cons (ps_asg pe_non (pg_sub (pe_fld (pv 0) rfl) (pv 2) set_list))
    (pss_one (ps_augS (pe_fld (pv 0) rfl) (pe_op op_divNat (pv 2) (pe_fld (pv 0) rfl)) pget_list pe_int ip_sub set_list)))) pss_nil), ?_⟩
  refine ⟨_, rfl, _, rfl, _, _, _, _, _, rfl, R.at_ 3 (by decide), T.c_Book, T.nBook_where, lk_Book_where, _, _, rfl, DGet.k (k := Sum.inl (n : Int)) (R.at_ 12 (by decide)), _, rfl, ?_⟩
  cases e : S.m.whr n with
  | none =>
    rw [R.dic.none_of e]
    refine iteF ?_
    have ef : forget c.P S.m n = S.m := by unfold forget; rw [e]
    refine k S.kvs H ?_ (Fr.refl H)
    rw [ef]
    exact R
  | some q =>
    have hv := R.dic.fr n q e
    obtain ⟨hq1, hq2⟩ := hq q e
    have hb := pg_blk hq1
    rw [hv]
    refine iteT ?_
    refine ⟨_, rfl, _, _, _, _, _, rfl, R.at_ 3 (by decide), T.c_Book, T.nBook_where, lk_Book_where, _, rfl, .inl ⟨_, Rd.of (R.at_ 12 (by decide))⟩, _, rfl, _, Sum.inl (n : Int), _, R.at_ 12 (by decide), rfl, hv, ?_⟩
    have R1 := R.dict _ _ (R.dic.drop n)
    refine ⟨_, rfl, _, _, _, _, _, rfl, R1.at_ 3 (by decide), T.c_Book, T.nBook_names, lk_Book_names, _, rfl, _, _, _, _, rfl, rfl, R1.at_ 13 (by decide), (by rw [mkL_len]; exact ixN_nat hq1), ?_⟩
    have R2 := R1.names (p := q) none
    refine ⟨_, rfl, _, _, _, _, _, rfl, R2.at_ 3 (by decide), T.c_Book, T.nBook_live, lk_Book_live, _, rfl, _, rfl, _, _, _, _, _, rfl, R2.at_ 3 (by decide), T.c_Book, T.nBook_pages, lk_Book_pages, _, _, rfl, rfl, ⟨by omega, by omega⟩, _, _, _, _, rfl, rfl, SqL.of (R2.at_ 14 (by decide)), mkL_get hb, _, _, rfl, rfl, _, _, _, _, rfl, rfl, R2.at_ 14 (by decide), (by rw [mkL_len]; exact ixN_nat hb), ?_⟩
    have R3 := R2.live (b := q / c.P) (v := S.m.live (q / c.P) - 1) (z := (S.m.live (q / c.P) : Int) - 1) (by omega)
    refine k (dropK S.kvs (.inl (n : Int))) _ ?_ (Fr.trans (Fr.upd (by decide)) (Fr.trans (Fr.upd (by decide)) (Fr.upd (by decide))))
    have ef : forget c.P S.m n = { S.m with whr := up S.m.whr n none, names := up S.m.names q none, live := up S.m.live (q / c.P) (S.m.live (q / c.P) - 1) } := by unfold forget; rw [e]
    rw [ef]
    exact R3
theorem sc_Book_emptied : FnScope ["self", "block"] ["self", "block"] (defScope sBook_emptied) := ⟨rfl, rfl, rfl, by decide +kernel, rfl, by decide +kernel, by decide +kernel⟩
theorem ok_Book_emptied (T : Txt K mg) : C8.Met P w K mg base 1 (He.ga K "Book") "emptied" (spEmptied K) [] := by
  refine met T.c_Book T.mBook_emptied T.dBook_emptied (ps := ["self", "block"]) (fun _ _ _ _ _ _ us hl => match us, hl with | [_, _], _ => rfl) sc_Book_emptied (fun vs H Q E h => by obtain ⟨_, _, _, rfl, _⟩ := h; rfl) (fun cdv A outer s H vs Q E hr h => ?_)
  obtain ⟨c, S, b, rfl, R, hb, k⟩ := h
  refine ⟨_, pss_cons (ps_asg pe_int (pg_sub (pe_fld (pv 0) rfl) (pv 1) set_list)) (pss_one (ps_asg pe_int (pg_sub (pe_fld (pv 0) rfl) (pv 1) set_list))), ?_⟩
  refine ⟨_, rfl, _, _, _, _, _, rfl, R.at_ 3 (by decide), T.c_Book, T.nBook_filled, lk_Book_filled, _, rfl, _, _, _, _, rfl, rfl, R.at_ 15 (by decide), (by rw [mkL_len]; exact ixN_nat hb), ?_⟩
  have R1 := R.filled (b := b) (v := 0) (z := 0) rfl
  refine ⟨_, rfl, _, _, _, _, _, rfl, R1.at_ 3 (by decide), T.c_Book, T.nBook_born, lk_Book_born, _, rfl, _, _, _, _, rfl, rfl, R1.at_ 16 (by decide), (by rw [mkL_len]; exact ixN_nat hb), ?_⟩
  exact k _ (R1.born (b := b) 0) (Fr.trans (Fr.upd (by decide)) (Fr.upd (by decide)))
theorem sc_Book_note : FnScope ["self", "page", "name", "block"] ["self", "page", "name"] (defScope sBook_note) := ⟨rfl, rfl, rfl, by decide +kernel, rfl, by decide +kernel, by decide +kernel⟩
theorem ok_Book_note (T : Txt K mg) : C8.Met P w K mg base 2 (He.ga K "Book") "note" (spNote K) [] := by
  refine met T.c_Book T.mBook_note T.dBook_note (ps := ["self", "page", "name"]) (fun _ _ _ _ _ _ us hl => match us, hl with | [_, _, _], _ => rfl) sc_Book_note (fun vs H Q E h => by obtain ⟨_, _, _, _, rfl, _⟩ := h; rfl) (fun cdv A outer s H vs Q E hr h => ?_)
  obtain ⟨c, S, p, n, rfl, R, hp, hq, hw, k⟩ := h
  have hP := R.ok.P1
  have hP2 := R.ok.P2
  have hb := pg_blk hp
  refine ⟨_, pss_cons (ps_expr (C8.pe_mt (ok_Book_forget T) hr (by decide) (pv 0) (pa_cons (pv 2) pa_nil)))
    (pss_cons (ps_set (i := 3) sc_Book_note.nd rfl (.inl rfl) (pe_op op_divNat (pv 1) (pe_fld (pv 0) rfl)))
    (C8.pss_cut (ps_if (pt_cmpR op_eq (pe_ix ix_list (pe_fld (pv 0) rfl) (pv 3) (fun _ _ => rfl)) pe_int (nomark _)) (pss_one (ps_asg (pe_fld (pv 0) rfl) (pg_sub (pe_fld (pv 0) rfl) (pv 3) set_list))) pss_nil)
    (pss_cons (ps_augS (pe_fld (pv 0) rfl) (pv 3) pget_list pe_int ip_add set_list)
    (pss_cons (ps_augS (pe_fld (pv 0) rfl) (pv 3) pget_list pe_int ip_add set_list)
    (pss_cons (ps_asg (pv 2) (pg_sub (pe_fld (pv 0) rfl) (pv 1) set_list))
    (pss_cons (ps_dput (hu_of hr) (pe_fld (pv 0) rfl) (pv 2) (pv 1) rfl)
    (pss_one (ps_fldaug (pv 0) pe_int in_add)))))))), ?_⟩
  refine ⟨_, rfl, _, _, _, rfl, R.at_ 3 (by decide), ln_Book_forget, _, rfl, c, S, n, rfl, R, hq, fun kvs H1 R1 F1 => ?_⟩
  refine ⟨_, rfl, _, rfl, _, _, _, _, _, rfl, R1.at_ 3 (by decide), T.c_Book, T.nBook_pages, lk_Book_pages, _, _, rfl, rfl, ⟨by omega, by omega⟩, ?_⟩
  refine ⟨fun σ H2 => σ = [some (.ref (c.A 3)), some (.int p), some (.int n), some (.int (p / c.P : Nat))] ∧ Fr c H H2 ∧
    Rep K c { S with m := { forget c.P S.m n with born := if (forget c.P S.m n).filled (p / c.P) = 0 then up (forget c.P S.m n).born (p / c.P) (forget c.P S.m n).stamp else (forget c.P S.m n).born }, kvs := kvs } H2, ?_, ?_⟩
  · refine ⟨_, rfl, _, _, _, _, _, rfl, R1.at_ 3 (by decide), T.c_Book, T.nBook_filled, lk_Book_filled, _, rfl, _, _, _, _, rfl, rfl, SqL.of (R1.at_ 15 (by decide)), atI_nat (mkL_get hb), rfl, _, rfl, ite2 (fun h0 => ?_) (fun h0 => ?_)⟩
    · have h0 : (forget c.P S.m n).filled (p / c.P) = 0 := by
        have e : (((forget c.P S.m n).filled (p / c.P) : Nat) : Int) = 0 := V.int.inj (of_decide_eq_true h0)
        omega
      refine ⟨_, rfl, _, _, _, _, _, rfl, R1.at_ 3 (by decide), T.c_Book, T.nBook_stamp, lk_Book_stamp, _, rfl, _, _, _, _, _, rfl, R1.at_ 3 (by decide), T.c_Book, T.nBook_born, lk_Book_born, _, rfl, _, _, _, _, rfl, rfl, R1.at_ 16 (by decide), (by rw [mkL_len]; exact ixN_nat hb), ?_⟩
      refine ⟨rfl, Fr.trans F1 (Fr.upd (by decide)), ?_⟩
      rw [if_pos h0]
      exact R1.born _
    · have h0 : ¬ (forget c.P S.m n).filled (p / c.P) = 0 := fun z => h0 (decide_eq_true (by rw [z]; rfl))
      refine ⟨rfl, F1, ?_⟩
      rw [if_neg h0]
      exact R1
  · rintro σ H2 ⟨rfl, F2, R2⟩
    refine ⟨_, rfl, _, _, _, _, _, rfl, R2.at_ 3 (by decide), T.c_Book, T.nBook_filled, lk_Book_filled, _, rfl, _, _, _, _, rfl, rfl, SqL.of (R2.at_ 15 (by decide)), mkL_get hb, _, _, rfl, rfl, _, _, _, _, rfl, rfl, R2.at_ 15 (by decide), (by rw [mkL_len]; exact ixN_nat hb), ?_⟩
    have R3 := R2.filled (b := p / c.P) (v := (forget c.P S.m n).filled (p / c.P) + 1) (z := ((forget c.P S.m n).filled (p / c.P) : Int) + 1) rfl
    refine ⟨_, rfl, _, _, _, _, _, rfl, R3.at_ 3 (by decide), T.c_Book, T.nBook_live, lk_Book_live, _, rfl, _, _, _, _, rfl, rfl, SqL.of (R3.at_ 14 (by decide)), mkL_get hb, _, _, rfl, rfl, _, _, _, _, rfl, rfl, R3.at_ 14 (by decide), (by rw [mkL_len]; exact ixN_nat hb), ?_⟩
    have R4 := R3.live (b := p / c.P) (v := (forget c.P S.m n).live (p / c.P) + 1) (z := ((forget c.P S.m n).live (p / c.P) : Int) + 1) rfl
    refine ⟨_, rfl, _, rfl, _, _, _, _, _, rfl, R4.at_ 3 (by decide), T.c_Book, T.nBook_names, lk_Book_names, _, rfl, _, _, _, _, rfl, rfl, R4.at_ 13 (by decide), (by rw [mkL_len]; exact ixN_nat hp), ?_⟩
    have R5 := R4.names (p := p) (some n)
    have hwn : (forget c.P S.m n).whr n = none := by rw [forget_whr, if_pos rfl]
    have hlen : kvs.length < sizeLine := Nat.lt_of_le_of_lt (R1.dic.len fun m q hm => by
      have hm : (forget c.P S.m n).whr m = some q := hm
      rw [forget_whr] at hm
      split at hm
      · cases hm
      · exact hw m q hm) (by decide)
    refine ⟨_, rfl, _, rfl, _, _, _, _, _, rfl, R5.at_ 3 (by decide), T.c_Book, T.nBook_where, lk_Book_where, _, rfl, _, _, rfl, DPut.k (k := Sum.inl (n : Int)) (R5.at_ 12 (by decide)) hlen, ?_⟩
    have R6 := R5.dict _ _ (R5.dic.put n p hwn)
    refine ⟨_, rfl, _, _, _, _, _, rfl, R6.at_ 3 (by decide), T.c_Book, T.nBook_stamp, lk_Book_stamp, _, _, rfl, rfl, _, _, R6.at_ 3 (by decide), (by show 8 < 1000; decide), ?_⟩
    have R7 := R6.stamp ((forget c.P S.m n).stamp + 1)
    refine k _ _ R7 ?_
    exact Fr.trans F2 (Fr.trans (Fr.upd (by decide)) (Fr.trans (Fr.upd (by decide)) (Fr.trans (Fr.upd (by decide)) (Fr.trans (Fr.upd (by decide)) (Fr.upd (by decide))))))
end
end Wp
namespace Wp
open PySem PySem.Spec PyProof.Rows L2
structure TupL (H : Hp) (ts : List V) (L : List (Nat × Nat)) : Prop where
  len : ts.length = L.length
  at_ : ∀ (i : Nat) (v : V), ts[i]? = some v → ∃ (t : Addr) (p n : Nat), v = V.ref t ∧ L[i]? = some (p, n) ∧ H t = some (.tup [.int p, .int n])
theorem TupL.keep {H H' : Hp} {ts : List V} {L : List (Nat × Nat)} (h : TupL H ts L) (k : ∀ t xs, H t = some (.tup xs) → H' t = some (.tup xs)) : TupL H' ts L :=
  ⟨h.len, fun i v e => let ⟨t, p, n, a, b, c⟩ := h.at_ i v e; ⟨t, p, n, a, b, k _ _ c⟩⟩
theorem TupL.snoc {H : Hp} {ts : List V} {L : List (Nat × Nat)} {q : Addr} {p n : Nat} (h : TupL H ts L) (hq : H q = some (.tup [.int (p : Nat), .int (n : Nat)])) : TupL H (ts ++ [.ref q]) (L ++ [(p, n)]) := by
  refine ⟨by rw [List.length_append, List.length_append, h.len]; rfl, fun i v e => ?_⟩
  by_cases hi : i < ts.length
  · rw [List.getElem?_append_left hi] at e
    obtain ⟨t, a, b, c, d, f⟩ := h.at_ i v e
    exact ⟨t, a, b, c, by rw [List.getElem?_append_left (by rw [← h.len]; exact hi)]; exact d, f⟩
  · rw [List.getElem?_append_right (by omega)] at e
    by_cases hj : i - ts.length = 0
    · rw [hj] at e
      have ev : V.ref q = v := Option.some.inj e
      refine ⟨q, p, n, ev.symm, ?_, hq⟩
      rw [List.getElem?_append_right (by rw [← h.len]; omega), ← h.len, hj]
      rfl
    · rw [List.getElem?_eq_none (by rw [List.length_singleton]; omega)] at e
      cases e
def lp (P b : Nat) (names : Nat → Option Nat) : Nat → List (Nat × Nat)
  | 0 => []
  | i + 1 => lp P b names i ++ (match names (b * P + i) with
    | none => []
    | some n => [(b * P + i, n)])
theorem lp_len (P b : Nat) (names : Nat → Option Nat) : ∀ i, (lp P b names i).length = cnt i fun j => (names (b * P + j)).isSome
  | 0 => rfl
  | i + 1 => by
    show (lp P b names i ++ _).length = cnt i _ + _
    rw [List.length_append, lp_len P b names i]
    cases e : names (b * P + i) with
    | none => simp [e]
    | some m => simp [e]
theorem lp_mem {P b : Nat} {names : Nat → Option Nat} : ∀ {i p n : Nat}, (p, n) ∈ lp P b names i ↔ ∃ j, j < i ∧ p = b * P + j ∧ names p = some n
  | 0, p, n => ⟨fun h => (nomatch h), fun ⟨j, h, _⟩ => absurd h (by omega)⟩
  | i + 1, p, n => by
    show (p, n) ∈ lp P b names i ++ _ ↔ _
    rw [List.mem_append, lp_mem (i := i)]
    constructor
    · rintro (⟨j, h1, h2, h3⟩ | h)
      · exact ⟨j, by omega, h2, h3⟩
      · cases e : names (b * P + i) with
        | none => rw [e] at h; cases h
        | some m =>
          rw [e] at h
          have h : (p, n) = (b * P + i, m) := List.mem_singleton.mp h
          obtain ⟨rfl, rfl⟩ := Prod.mk.inj h
          exact ⟨i, by omega, rfl, e⟩
    · rintro ⟨j, h1, h2, h3⟩
      by_cases hj : j < i
      · exact .inl ⟨j, hj, h2, h3⟩
      · have : j = i := by omega
        subst this
        refine .inr ?_
        rw [← h2, h3]
        exact List.mem_singleton.mpr rfl
theorem lp_nodup {P b : Nat} {names : Nat → Option Nat} : ∀ i, ((lp P b names i).map Prod.fst).Nodup
  | 0 => List.nodup_nil
  | i + 1 => by
    have ih := lp_nodup (P := P) (b := b) (names := names) i
    show ((lp P b names i ++ _).map Prod.fst).Nodup
    cases e : names (b * P + i) with
    | none =>
      show ((lp P b names i ++ []).map Prod.fst).Nodup
      rw [List.append_nil]
      exact ih
    | some m =>
      show ((lp P b names i ++ [(b * P + i, m)]).map Prod.fst).Nodup
      rw [List.map_append]
      refine nd_snoc ih fun h => ?_
      obtain ⟨⟨p, n⟩, h1, h2⟩ := List.mem_map.mp h
      obtain ⟨j, h3, h4, _⟩ := lp_mem.mp h1
      have h2 : p = b * P + i := h2
      omega
theorem lc_keys {d : Addr} {o : Obj} {kvs : List (Key × V)} {g : TG} {tt : TT} {te : TE} {vs : List Nat} {σ : L2.St} {H1 : Hp} {D : Addr} {Qd : Hp → Prop} (Pv : Nat → Hp → Prop) (h0 : Pv 0 (upd H1 D (.lst []))) (hl : ∀ i H, i ≤ kvs.length → Pv i H → H d = some (.frz o (.dK kvs)))
    (hs : ∀ i k v H, kvs[i]? = some (k, v) → Pv i H → g (kV k) (wipe σ vs) H fun σ2 H2 => wipe σ2 vs = wipe σ vs ∧ tt σ2 H2 fun b H3 =>
      if b = true then te σ2 H3 fun y H4 => ∃ acc, H4 D = some (.lst acc) ∧ acc.length < sizeLine ∧ Pv (i + 1) (upd H4 D (.lst (acc ++ [y]))) else Pv (i + 1) H3) (hd : ∀ H, Pv kvs.length H → Qd H) :
    ∃ W : Nat → Nat → Hp → Prop, (∃ m, W 0 m (upd H1 D (.lst []))) ∧ ∀ i m H, W i m H →
      ((Itk d o kvs).stop i H ∧ Qd H) ∨ ((Itk d o kvs).go i H ∧ ∃ Nx : Hp → Prop, (∀ H', Nx H' → ∃ m', m' < m ∧ W (i + 1) m' H') ∧ ∀ x H', (Itk d o kvs).yld i H x H' → g x (wipe σ vs) H' fun σ2 H2 => wipe σ2 vs = wipe σ vs ∧ tt σ2 H2 fun b H3 =>
        if b = true then te σ2 H3 fun y H4 => ∃ acc, H4 D = some (.lst acc) ∧ acc.length < sizeLine ∧ Nx (upd H4 D (.lst (acc ++ [y]))) else Nx H3) := by
  refine ⟨fun i m H => m = kvs.length - i ∧ i ≤ kvs.length ∧ Pv i H, ⟨kvs.length, by simp, Nat.zero_le _, h0⟩, ?_⟩
  rintro i m H ⟨rfl, hi, p⟩
  have q := hl i H hi p
  by_cases hlt : i < kvs.length
  · refine .inr ⟨⟨q, hlt⟩, Pv (i + 1), fun H' p' => ⟨kvs.length - (i + 1), by omega, rfl, hlt, p'⟩, fun x H' y => ?_⟩
    obtain ⟨e, k, v, e1, e2⟩ := y
    subst e e2
    exact hs i k v _ e1 p
  · exact .inl ⟨⟨q, by omega⟩, hd H (by
      have e : i = kvs.length := by omega
      rw [← e]
      exact p)⟩
def spLive (K : PySem.W.Frag) : Sp := fun vs H Q _ => ∃ (c : Cf) (S : WS) (b : Nat), vs = [.ref (c.A 3), .int b] ∧ Rep K c S H ∧ b < c.B ∧
  ∀ ts l H', TupL H' ts (lp c.P b S.m.names c.P) → Same H H' → H l = none → H' l = some (.lst ts) → Q (.ref l) H'
def intsN (hs : List Nat) : List V := hs.map fun n => V.int (n : Nat)
def spHeld (K : PySem.W.Frag) (A : Nat) : Sp := fun vs H Q _ => ∃ (c : Cf) (S : WS), vs = [.ref (c.A A)] ∧ Rep K c S H ∧ (∀ n p, S.m.whr n = some p → n < 65) ∧
  ∀ (hs : List Nat) l H', hs.Nodup → (∀ n, n ∈ hs ↔ n < 64 ∧ (S.m.whr n).isSome = true) → Same H H' → H l = none → H' l = some (.lst (intsN hs)) → Q (.ref l) H'
def spBits (K : PySem.W.Frag) : Sp := fun vs H Q _ => ∃ (a : Addr) (ns : List Nat), vs = [.ref a] ∧ SqL K H a (intsN ns) ∧ (∀ n ∈ ns, n ≤ 1000) ∧ ∀ k : Int, Q (.int k) H
section
variable {P : Program} {w : World} {K : PySem.W.Frag} {mg : Str → Option Value} {base : Heap}
theorem sc_bits_of : FnScope ["sheets", "bits", "sheet"] ["sheets"] (defScope sbits_of) := ⟨rfl, rfl, rfl, by decide +kernel, rfl, by decide +kernel, by decide +kernel⟩
theorem ok_bits_of (T : Txt K mg) : C8.Cal P w K mg base 1 "bits_of" (spBits K) [] := by
  refine cal T.g_bits_of T.d_bits_of (ps := ["sheets"]) (fun _ _ _ _ _ _ us hl => match us, hl with | [_], _ => rfl) sc_bits_of (fun vs H Q E h => by obtain ⟨_, _, rfl, _⟩ := h; rfl) (fun cdv A outer s H vs Q E hr h => ?_)
  obtain ⟨a, ns, rfl, hS, hn, k⟩ := h
  refine ⟨_, pss_cons (ps_set (i := 1) sc_bits_of.nd rfl (.inl rfl) pe_int)
    (pss_cons (ps_for PassesOwn.never rfl (pi_list (pv 0)) (pg_name (i := 2) sc_bits_of.nd rfl (Or.inl rfl)) (pss_one (ps_set (i := 1) sc_bits_of.nd rfl (.inl rfl) (pe_op op_or (pv 1) (pe_op op_shl pe_int (pv 2))))))
    (pss_one (ps_ret (pv 1)))), ?_⟩
  refine ⟨_, rfl, a, rfl, ⟨_, hS⟩, for_list (K := K) (a := a) (xs := intsN ns) (fun i σ H5 => ∃ (z : Int) (y : Option V), σ = [some (.ref a), some (.int z), y] ∧ H5 = H) ⟨0, none, rfl, rfl⟩ (fun i σ H5 _ ⟨_, _, _, e⟩ => by rw [e]; exact hS) ?_ ?_⟩
  · rintro i y σ H5 hi ⟨z, v, rfl, rfl⟩
    unfold intsN at hi
    rw [List.getElem?_map] at hi
    cases e : ns[i]? with
    | none =>
      rw [e] at hi
      cases hi
    | some n =>
      rw [e] at hi
      have hy : V.int (n : Nat) = y := Option.some.inj hi
      subst hy
      have := hn n (List.mem_of_getElem? e)
      exact ⟨_, rfl, _, rfl, _, _, rfl, rfl, ⟨by omega, by omega, by decide⟩, _, _, rfl, rfl, _, _, rfl, rfl⟩
  · rintro σ H5 ⟨z, v, rfl, rfl⟩
    exact ⟨_, rfl, k z⟩
theorem sc_Book_live_pages : FnScope ["self", "block", "first", "found", "page"] ["self", "block"] (defScope sBook_live_pages) := ⟨rfl, rfl, rfl, by decide +kernel, rfl, by decide +kernel, by decide +kernel⟩
theorem ok_Book_live_pages (T : Txt K mg) : C8.Met P w K mg base 1 (He.ga K "Book") "live_pages" (spLive K) [] := by
  refine met T.c_Book T.mBook_live_pages T.dBook_live_pages (ps := ["self", "block"]) (fun _ _ _ _ _ _ us hl => match us, hl with | [_, _], _ => rfl) sc_Book_live_pages (fun vs H Q E h => by obtain ⟨_, _, _, rfl, _⟩ := h; rfl) (fun cdv A outer s H vs Q E hr h => ?_)
  obtain ⟨c, S, b, rfl, R, hb, k⟩ := h
  have hP := R.ok.P1
  have hP2 := R.ok.P2
  have hB2 := R.ok.B2
  refine ⟨_, pss_cons (ps_set (i := 2) sc_Book_live_pages.nd rfl (.inl rfl) (pe_op op_mulNat (pv 1) (pe_fld (pv 0) rfl)))
    (pss_cons (ps_set (i := 3) sc_Book_live_pages.nd rfl (.inl rfl) (pe_lst pa_nil))
    (pss_cons (ps_for PassesOwn.never rfl (pi_range2 (by rfl) T.z_range (pa_cons (pv 2) (pa_cons (pe_op op_addNat (pv 2) (pe_fld (pv 0) rfl)) pa_nil))) (pg_name (i := 4) sc_Book_live_pages.nd rfl (Or.inl rfl))
      (pss_one (ps_if (pt_cmpR op_notN (pe_ix ix_list (pe_fld (pv 0) rfl) (pv 4) (fun _ _ => rfl)) pe_non (nomark _))
        (pss_one (ps_expr (pe_bm PySem.F.plainAttrs_list PySem.F.slot_list_append PySem.F.type_list_append mt_append (pv 3) (pa_cons (pe_tup (pa_cons (pv 4) (pa_cons (pe_ix ix_list (pe_fld (pv 0) rfl) (pv 4) (fun _ _ => rfl)) pa_nil))) pa_nil)))) pss_nil)))
    (pss_one (ps_ret (pv 3))))), ?_⟩
  refine ⟨_, rfl, _, rfl, _, _, _, _, _, rfl, R.at_ 3 (by decide), T.c_Book, T.nBook_pages, lk_Book_pages, _, _, rfl, rfl, by omega, ?_⟩
  refine ⟨Nat.zero_le _, fun l hl => ?_⟩
  have s1 : Same H (upd H l (.lst [])) := same_new hl
  have R1 := R.same s1
  have hpl : b * c.P ≤ 256 := by
    have : b * c.P ≤ 16 * 16 := Nat.mul_le_mul (by omega) hP2
    omega
  refine ⟨_, rfl, _, rfl, _, rfl, _, _, _, _, _, rfl, R1.at_ 3 (by decide), T.c_Book, T.nBook_pages, lk_Book_pages, _, _, rfl, rfl, _, _, rfl, by omega, ?_⟩
  refine for_range (lo := ((b * c.P : Nat) : Int)) (n := _) (fun i σ H5 => i ≤ c.P ∧ ∃ (ts : List V) (y : Option V), σ = [some (.ref (c.A 3)), some (.int b), some (.int (b * c.P : Nat)), some (.ref l), y] ∧ Same H H5 ∧ H5 l = some (.lst ts) ∧ TupL H5 ts (lp c.P b S.m.names i))
    ⟨Nat.zero_le _, [], none, rfl, s1, upd_same, ⟨rfl, fun i v e => by simp at e⟩⟩ (fun i σ H5 hi hI => ?_) (fun σ H5 hI => ?_)
  · obtain ⟨hi2, ts, y, rfl, s5, hl5, hT⟩ := hI
    have hi3 : i < c.P := by omega
    have R5 := R.same s5
    have hp := pg_lt hb hi3
    refine ⟨_, rfl, _, _, _, _, _, rfl, R5.at_ 3 (by decide), T.c_Book, T.nBook_names, lk_Book_names, _, rfl, _, _, _, _, rfl, rfl, SqL.of (R5.at_ 13 (by decide)), atI_nat (j := b * c.P + i) (mkL_get hp), rfl, _, rfl, ?_⟩
    cases e : S.m.names (b * c.P + i) with
    | none =>
      refine iteNS rfl ?_
      refine ⟨by omega, ts, _, rfl, s5, hl5, ?_⟩
      show TupL H5 ts (lp c.P b S.m.names i ++ _)
      rw [e, List.append_nil]
      exact hT
    | some n =>
      refine iteT ?_
      refine ⟨_, rfl, .inl ⟨rfl, _, SqL.of hl5⟩, _, rfl, _, rfl, _, _, _, _, _, rfl, R5.at_ 3 (by decide), T.c_Book, T.nBook_names, lk_Book_names, _, rfl, _, _, _, _, rfl, rfl, SqL.of (R5.at_ 13 (by decide)), atI_nat (j := b * c.P + i) (mkL_get hp), (by show 2 ≤ sizeLine; decide), fun q hq => ?_⟩
      rw [e]
      have hlq : l ≠ q := ne_of_none hl5 hq
      refine ⟨l, ts, _, rfl, rfl, (by rw [upd_ne hlq]; exact hl5), ?_, ?_⟩
      · rw [hT.len, lp_len]
        exact Nat.lt_of_le_of_lt cnt_le (Nat.lt_of_le_of_lt hi2 (Nat.lt_of_le_of_lt hP2 (by decide)))
      · refine ⟨by omega, _, _, rfl, fun x o hx => ?_, upd_same, ?_⟩
        · rw [upd_ne (ne_of_none hx hl), upd_ne (ne_of_none (s5 _ _ hx) hq)]
          exact s5 _ _ hx
        · show TupL _ _ (lp c.P b S.m.names i ++ _)
          rw [e]
          have hT2 : TupL (upd (upd H5 q (.tup [.int (b * c.P + i : Nat), .int (n : Nat)])) l (.lst (ts ++ [.ref q]))) ts (lp c.P b S.m.names i) := hT.keep fun t xs ht => by
            rw [upd_ne (ne_of ht hl5 (by intro z; cases z)), upd_ne (ne_of_none ht hq)]
            exact ht
          exact hT2.snoc (by rw [upd_ne hlq.symm, upd_same])
  · obtain ⟨hi2, ts, y, rfl, s5, hl5, hT⟩ := hI
    have e : (((b * c.P + c.P : Nat) : Int) - ((b * c.P : Nat) : Int)).toNat = c.P := by omega
    rw [e] at hT
    exact ⟨_, rfl, k ts l H5 hT s5 hl hl5⟩
end
end Wp
namespace Wp
open PySem PySem.Spec PyProof.Rows L2
theorem intsN_eq (l : List Nat) : intsN l = (l.map fun n : Nat => (n : Int)).map V.int := by
  unfold intsN
  rw [List.map_map]
  rfl
theorem back_nat : ∀ {l : List Int}, (∀ x ∈ l, 0 ≤ x) → l = (l.map Int.toNat).map fun n : Nat => (n : Int)
  | [], _ => rfl
  | a :: r, h => by
    have h1 := h a List.mem_cons_self
    have ih := back_nat (l := r) fun x hx => h x (List.mem_cons_of_mem _ hx)
    rw [List.map_cons, List.map_cons, ← ih]
    congr 1
    omega
section
variable {P : Program} {w : World} {K : PySem.W.Frag} {mg : Str → Option Value} {base : Heap}
theorem sc_Book_held : FnScope ["self", "name"] ["self"] (defScope sBook_held) := ⟨rfl, rfl, rfl, by decide +kernel, rfl, by decide +kernel, by decide +kernel⟩
theorem ok_Book_held (T : Txt K mg) : C8.Met P w K mg base 1 (He.ga K "Book") "held" (spHeld K 3) [] := by
  refine met T.c_Book T.mBook_held T.dBook_held (ps := ["self"]) (fun _ _ _ _ _ _ us hl => match us, hl with | [_], _ => rfl) sc_Book_held (fun vs H Q E h => by obtain ⟨_, _, rfl, _⟩ := h; rfl) (fun cdv A outer s H vs Q E hr h => ?_)
  obtain ⟨c, S, rfl, R, hw, k⟩ := h
  obtain ⟨tR, hR⟩ := T.i_ROLL
  refine ⟨_, pss_one (ps_ret (pe_callB cr_sortedI (by rfl) T.z_sorted (by decide +kernel) (pa_cons (pe_lock (pe_lc (own := [("name", 1)]) (g := gName 1) rfl sc_Book_held.nd (pi_keys (pe_fld (pv 0) rfl)) (blkOk_by (N := ["self", "name"]) (sc := defScope sBook_held) (by decide +kernel))
    (fun _ _ _ _ _ => pg_name (i := 1) sc_Book_held.nd rfl (Or.inl rfl)) (fun _ _ _ _ _ => pts_one (pt_cmpR op_ne (pv 1) (C8.pe_gc (v := .int 64) rfl ⟨_, hR, _, rfl⟩) (nomark _))) (fun _ _ _ _ _ => pv 1))) pa_nil))), ?_⟩
  refine ⟨c.A 12, .dK S.kvs, R.at_ 12 (by decide), True.intro, fun od => ?_⟩
  have e3 : (upd H (c.A 12) (.frz od (.dK S.kvs))) (c.A 3) = some (obj K c S 3) := by
    rw [upd_ne (R.ne (by decide) (by decide) (by decide))]
    exact R.at_ 3 (by decide)
  refine ⟨_, rfl, _, _, _, _, _, rfl, e3, T.c_Book, T.nBook_where, lk_Book_where, _, od, rfl, .inl ⟨_, upd_same, fun D hD => ?_⟩⟩
  have nD : c.A 12 ≠ D := fun e => by rw [← e, upd_same] at hD; cases hD
  have old : ∀ b o, H b = some o → b ≠ D := fun b o e z => by
    subst z
    by_cases q : b = c.A 12
    · rw [q, upd_same] at hD; cases hD
    · rw [upd_ne q, e] at hD; cases hD
  refine lc_keys (fun i H5 => ∃ acc : List Nat, H5 D = some (.lst (intsN acc)) ∧ acc = ((S.kvs.take i).map fun kv => keyN kv.1).filter (fun n => decide (n ≠ 64)) ∧ H5 (c.A 12) = some (.frz od (.dK S.kvs)) ∧ ∀ b o, H b = some o → b ≠ c.A 12 → H5 b = some o)
    ⟨[], upd_same, rfl, (by rw [upd_ne nD, upd_same]), fun b o e n => by rw [upd_ne (old b o e), upd_ne n]; exact e⟩ (fun i H5 _ ⟨_, _, _, e, _⟩ => e) (fun i kk v H5 hi hI => ?_) (fun H5 hI => ?_)
  · obtain ⟨acc, h1, h2, h3, h4⟩ := hI
    obtain ⟨ek, _⟩ := R.dic.key (List.mem_of_getElem? hi)
    have et : S.kvs.take (i + 1) = S.kvs.take i ++ [(kk, v)] := by rw [List.take_add_one, hi]; rfl
    have ev : kV kk = V.int (keyN kk : Nat) := by rw [ek]; rfl
    rw [ev]
    refine ⟨rfl, _, rfl, rfl, _, rfl, ?_⟩
    have hacc : acc.length < sizeLine := by
      have h5 : acc.length ≤ S.kvs.length := by
        rw [h2]
        refine Nat.le_trans (List.length_filter_le _ _) ?_
        rw [List.length_map]
        rw [List.length_take]
        omega
      exact Nat.lt_of_le_of_lt h5 (Nat.lt_of_le_of_lt (R.dic.len hw) (by decide))
    refine ite2 (fun hne => ?_) (fun hne => ?_)
    · have hne : keyN kk ≠ 64 := fun z => by
        rw [z] at hne
        exact absurd hne (by decide)
      refine ⟨_, rfl, _, h1, (by unfold intsN; rw [List.length_map]; exact hacc), acc ++ [keyN kk], ?_, ?_, (by rw [upd_ne nD]; exact h3), fun b o e n => by rw [upd_ne (old b o e)]; exact h4 b o e n⟩
      · rw [upd_same]
        unfold intsN
        rw [List.map_append]
        rfl
      · rw [et, List.map_append, List.filter_append, ← h2]
        congr 1
        show [keyN kk] = List.filter _ [keyN kk]
        rw [List.filter_cons, if_pos (decide_eq_true hne)]
        rfl
    · have hne : keyN kk = 64 := Classical.byContradiction fun z => hne (by
        rw [decide_eq_false fun q => z (by have := V.int.inj q; omega)]
        rfl)
      refine ⟨acc, h1, ?_, h3, h4⟩
      rw [et, List.map_append, List.filter_append, ← h2]
      show acc = acc ++ List.filter _ [keyN kk]
      rw [List.filter_cons, if_neg (by simp [hne])]
      simp
  · obtain ⟨acc, h1, h2, h3, h4⟩ := hI
    rw [List.take_length] at h2
    refine ⟨h3, ?_⟩
    obtain ⟨n1, n2⟩ := R.dic.keys
    have s5 : Same H (upd H5 (c.A 12) (.dK S.kvs)) := fun b o e => by
      by_cases q : b = c.A 12
      · rw [q, upd_same]
        rw [q, R.at_ 12 (by decide)] at e
        exact e
      · rw [upd_ne q]
        exact h4 b o e q
    refine ⟨D, acc.map fun n : Nat => (n : Int), rfl, SqL.of (by rw [upd_ne nD.symm, h1, intsN_eq]), fun ns' p hp _ hn => ?_⟩
    have hb := back_nat (l := ns') fun x hx => by
      obtain ⟨n, _, e⟩ := List.mem_map.mp (hp.mem_iff.mp hx)
      omega
    have hperm : (ns'.map Int.toNat).Perm acc := by
      have := hp.map Int.toNat
      rw [List.map_map] at this
      have e : acc.map (Int.toNat ∘ fun n : Nat => (n : Int)) = acc := by
        conv => rhs; rw [← List.map_id acc]
        exact List.map_congr_left fun x _ => by simp
      rw [e] at this
      exact this
    refine k (ns'.map Int.toNat) p _ ?_ (fun n => ?_) (s5.trans (same_new hn)) (s5.free hn) ?_
    · refine hperm.nodup_iff.mpr ?_
      rw [h2]
      exact List.Pairwise.filter _ n1
    · rw [hperm.mem_iff, h2, List.mem_filter, n2 n]
      constructor
      · rintro ⟨a, b⟩
        obtain ⟨q, hq⟩ := Option.isSome_iff_exists.mp a
        have := hw n q hq
        have := of_decide_eq_true b
        exact ⟨by omega, a⟩
      · rintro ⟨a, b⟩
        exact ⟨b, decide_eq_true (by omega)⟩
    · rw [upd_same, intsN_eq, ← hb]
end
end Wp
namespace Wp
open PySem PySem.Spec PyProof.Rows L2
def Flat (K : PySem.W.Frag) (H : Hp) (xs : List V) : Prop := ∃ ds, DpAll K H xs ds ∧ ∀ d ∈ ds, d.canLay0 = true ∧ d.depth ≤ 1
theorem sh_all : ∀ ds : List PyData, (∀ d ∈ ds, d.canLay0 = true ∧ d.depth ≤ 1) → PyData.canLayAll0 ds = true ∧ PyData.depthAll ds ≤ 1
  | [], _ => ⟨by simp [PyData.canLayAll0], by simp [PyData.depthAll]⟩
  | d :: ds, h => by
    obtain ⟨h1, h2⟩ := h d List.mem_cons_self
    obtain ⟨h3, h4⟩ := sh_all ds fun x hx => h x (List.mem_cons_of_mem _ hx)
    refine ⟨by simp [PyData.canLayAll0, h1, h3], ?_⟩
    simp only [PyData.depthAll]
    exact Nat.max_le.mpr ⟨h2, h4⟩
theorem shaped_list {ds : List PyData} (h : ∀ d ∈ ds, d.canLay0 = true ∧ d.depth ≤ 1) : SeqAt.shaped (.list ds) = true := by
  obtain ⟨h1, h2⟩ := sh_all ds h
  unfold SeqAt.shaped
  simp only [PyData.canLay0, PyData.depth, h1, Bool.true_and]
  exact decide_eq_true (Nat.le_trans (Nat.succ_le_succ h2) (by decide : 2 ≤ 64))
theorem dpAll_len {K : PySem.W.Frag} {H : Hp} : ∀ {xs : List V} {ds : List PyData}, DpAll K H xs ds → xs.length = ds.length
  | _, _, .nil => rfl
  | _, _, .cons _ h => congrArg Nat.succ (dpAll_len h)
theorem eqv_nil {xs : List V} {ds : List PyData} (h : xs.length = ds.length) : PyData.eqv (.list ds) (.list []) = xs.isEmpty := by
  rw [PyData.eqv]
  cases ds with
  | nil =>
    cases xs with
    | nil => simp [PyData.eqvAll]
    | cons a r => cases h
  | cons d r =>
    cases xs with
    | nil => cases h
    | cons a q => simp [PyData.eqvAll]
def rNil (K : PySem.W.Frag) (neg : Bool) : R2 := fun x y H Q => ∃ a b xs, x = .ref a ∧ y = .ref b ∧ SqL K H a xs ∧ Flat K H xs ∧ SqL K H b [] ∧ Q (.bl (if neg then !xs.isEmpty else xs.isEmpty)) H
theorem op_eqNil {X : Cx} (hu : X.A.units + 64 < cLine) : OpR X (compareOp .Eq) (rNil X.K false) := by
  intro pins s σ H x y u v Q I rx ry h
  obtain ⟨a, b, xs, rfl, rfl, h1, ⟨ds, h2, h3⟩, h4, q⟩ := h
  refine op_eqD hu pins s σ H _ _ u v Q I rx ry ⟨.list ds, .list [], .lst h1 h2, .lst h4 .nil, shaped_list h3, shaped_list (by simp), ?_⟩
  rw [eqv_nil (dpAll_len h2)]
  exact q
theorem op_neNil {X : Cx} (hu : X.A.units + 64 < cLine) : OpR X (compareOp .NotEq) (rNil X.K true) := by
  intro pins s σ H x y u v Q I rx ry h
  obtain ⟨a, b, xs, rfl, rfl, h1, ⟨ds, h2, h3⟩, h4, q⟩ := h
  refine op_neD hu pins s σ H _ _ u v Q I rx ry ⟨.list ds, .list [], .lst h1 h2, .lst h4 .nil, shaped_list h3, shaped_list (by simp), ?_⟩
  rw [eqv_nil (dpAll_len h2)]
  exact q
theorem flat_ints {K : PySem.W.Frag} {H : Hp} : ∀ hs : List Nat, Flat K H (intsN hs)
  | [] => ⟨[], .nil, fun d h => by cases h⟩
  | a :: r => by
    obtain ⟨ds, h1, h2⟩ := flat_ints (K := K) (H := H) r
    refine ⟨.int (a : Nat) :: ds, .cons (.int _) h1, fun d h => ?_⟩
    rcases List.mem_cons.mp h with e | e
    · rw [e]
      exact ⟨by simp [PyData.canLay0], by simp [PyData.depth]⟩
    · exact h2 d e
theorem dp_ints {K : PySem.W.Frag} {H : Hp} : ∀ zs : List Int, DpAll K H (zs.map V.int) (zs.map PyData.int)
  | [] => .nil
  | _ :: r => .cons (.int _) (dp_ints r)
theorem flat_tups {K : PySem.W.Frag} {H : Hp} : ∀ xs : List V, (∀ x ∈ xs, ∃ (t : Addr) (zs : List Int), x = V.ref t ∧ H t = some (.tup (zs.map V.int))) → Flat K H xs
  | [], _ => ⟨[], .nil, fun d h => by cases h⟩
  | a :: r, h => by
    obtain ⟨ds, h1, h2⟩ := flat_tups (K := K) r fun x hx => h x (List.mem_cons_of_mem _ hx)
    obtain ⟨t, zs, rfl, ht⟩ := h a List.mem_cons_self
    refine ⟨.tuple (zs.map PyData.int) :: ds, .cons (.tup (SqT.of ht) (dp_ints zs)) h1, fun d hd => ?_⟩
    rcases List.mem_cons.mp hd with e | e
    · have k : ∀ l : List Int, PyData.canLayAll0 (l.map PyData.int) = true ∧ PyData.depthAll (l.map PyData.int) = 0 := fun l => by
        induction l with
        | nil => exact ⟨by simp [PyData.canLayAll0], by simp [PyData.depthAll]⟩
        | cons x l ih => exact ⟨by simp [PyData.canLayAll0, PyData.canLay0, ih.1], by simp [PyData.depthAll, PyData.depth, ih.2]⟩
      rw [e]
      refine ⟨?_, ?_⟩
      · simp only [PyData.canLay0]
        exact (k zs).1
      · simp only [PyData.depth, (k zs).2]
        omega
    · exact h2 d e
theorem mkL_succ {n : Nat} {f : Nat → V} : mkL (n + 1) f = mkL n f ++ [f n] := by
  unfold mkL
  rw [List.range_succ, List.map_append]
  rfl
theorem mkL_mem {n i : Nat} {f : Nat → V} {v : V} (h : (mkL n f)[i]? = some v) : i < n ∧ v = f i := by
  by_cases hi : i < n
  · rw [mkL_get hi] at h
    exact ⟨hi, (Option.some.inj h).symm⟩
  · rw [List.getElem?_eq_none (by rw [mkL_len]; omega)] at h
    cases h
def isPart (P : Nat) (m : MS) (b : Nat) : Prop := 0 < m.filled b ∧ m.filled b < P
def spGood (K : PySem.W.Frag) : Sp := fun vs H Q _ => ∃ (c : Cf) (S : WS), vs = [.ref (c.A 0)] ∧ Rep K c S H ∧ ∀ l H', Same H H' → H l = none → H' l = some (.lst (mkL c.B fun b => .int (b : Nat))) → Q (.ref l) H'
def spFree (K : PySem.W.Frag) : Sp := fun vs H Q _ => ∃ (c : Cf) (S : WS), vs = [.ref (c.A 0)] ∧ Rep K c S H ∧
  ∀ (fs : List Nat) l H', fs.length = nfree c.B S.m → (∀ b ∈ fs, b < c.B ∧ S.m.filled b = 0) → Same H H' → H l = none → H' l = some (.lst (intsN fs)) → Q (.ref l) H'
def spPart (K : PySem.W.Frag) : Sp := fun vs H Q _ => ∃ (c : Cf) (S : WS), vs = [.ref (c.A 0)] ∧ Rep K c S H ∧ (∀ b H', b < c.B → isPart c.P S.m b → Same H H' → Q (.int (b : Nat)) H') ∧ (∀ H', (∀ b, b < c.B → ¬ isPart c.P S.m b) → Same H H' → Q .non H')
section
variable {P : Program} {w : World} {K : PySem.W.Frag} {mg : Str → Option Value} {base : Heap}
theorem sc_Store_good : FnScope ["self", "block"] ["self"] (defScope sPlain_good) := ⟨rfl, rfl, rfl, by decide +kernel, rfl, by decide +kernel, by decide +kernel⟩
theorem ok_Store_good (T : Txt K mg) : C8.Met P w K mg base 5 (He.ga K "Store") "good" (spGood K) [] := by
  refine met T.c_Store T.mStore_good T.dStore_good (ps := ["self"]) (fun _ _ _ _ _ _ us hl => match us, hl with | [_], _ => rfl) sc_Store_good (fun vs H Q E h => by obtain ⟨_, _, rfl, _⟩ := h; rfl) (fun cdv A outer s H vs Q E hr h => ?_)
  obtain ⟨c, S, rfl, R, k⟩ := h
  have hB2 := R.ok.B2
  refine ⟨_, pss_one (ps_ret (pe_lc (own := [("block", 1)]) (g := gName 1) (tt := tNot (tB (tMeth (He.ga K "Chip") "failed" (spFailed K) [] C8.E0 (tFld K (tVar 0) "chip") (tCons (tVar 1) tNil)))) rfl sc_Store_good.nd (pi_range1 (by rfl) T.z_range (pa_cons (pe_fld (pe_fld (pv 0) rfl) rfl) pa_nil)) (blkOk_by (N := ["self", "block"]) (sc := defScope sPlain_good) (by decide +kernel))
    (fun _ _ _ _ _ => pg_name (i := 1) sc_Store_good.nd rfl (Or.inl rfl)) (fun _ _ _ _ _ => pts_one (pt_not (pt_val (C8.pe_mt (ok_Chip_failed T) hr (by decide) (pe_fld (pv 0) rfl) (pa_cons (pv 1) pa_nil))))) (fun _ _ _ _ _ => pv 1))), ?_⟩
  refine ⟨_, rfl, _, _, _, _, _, rfl, R.at_ 0 (by decide), T.c_Store, T.nStore_terms, lk_Store_terms, _, _, _, _, _, rfl, R.at_ 2 (by decide), T.c_Terms, T.nTerms_blocks, lk_Terms_blocks, _, rfl, by omega, by omega, fun D hD => ?_⟩
  have nD := R.new hD
  refine lc_range (lo := 0) (n := _) (fun i H5 => H5 D = some (.lst (mkL i fun b => .int (b : Nat))) ∧ Same H H5) ⟨upd_same, same_new hD⟩ (fun i H5 hi hI => ?_) (fun H5 hI => ?_)
  · obtain ⟨h1, s5⟩ := hI
    have R5 := R.same s5
    have hi : i < c.B := by omega
    refine ⟨rfl, _, rfl, _, _, _, _, _, rfl, R5.at_ 0 (by decide), T.c_Store, T.nStore_chip, lk_Store_chip, _, _, _, rfl, R5.at_ 1 (by decide), ln_Chip_failed, _, rfl, c, S, i, (by rw [Int.zero_add]; rfl), R5, hi, ?_⟩
    refine ⟨false, rfl, iteT ?_⟩
    refine ⟨_, rfl, _, h1, (by rw [mkL_len]; exact Nat.lt_of_lt_of_le hi (Nat.le_trans hB2 (by decide))), ?_, fun b o e => by rw [upd_ne (ne_of_none e hD)]; exact s5 b o e⟩
    rw [upd_same, mkL_succ, Int.zero_add]
  · obtain ⟨h1, s5⟩ := hI
    exact k D H5 s5 hD (by rw [h1]; congr 2)
theorem sc_Store_part : FnScope ["self", "block"] ["self"] (defScope sPlain_part) := ⟨rfl, rfl, rfl, by decide +kernel, rfl, by decide +kernel, by decide +kernel⟩
theorem ok_Store_part (T : Txt K mg) : C8.Met P w K mg base 6 (He.ga K "Store") "part" (spPart K) [] := by
  refine met T.c_Store T.mStore_part T.dStore_part (ps := ["self"]) (fun _ _ _ _ _ _ us hl => match us, hl with | [_], _ => rfl) sc_Store_part (fun vs H Q E h => by obtain ⟨_, _, rfl, _⟩ := h; rfl) (fun cdv A outer s H vs Q E hr h => ?_)
  obtain ⟨c, S, rfl, R, k1, k2⟩ := h
  have hB2 := R.ok.B2
  refine ⟨_, pss_cons (ps_for PassesOwn.never rfl (pi_list (C8.pe_mt0 (ok_Store_good T) hr (by decide) (pv 0))) (pg_name (i := 1) sc_Store_part.nd rfl (Or.inl rfl))
      (pss_one (ps_if (pt_chain op_lt op_lt pe_int (pe_ix ix_list (pe_fld (pe_fld (pv 0) rfl) rfl) (pv 1) (fun _ _ => rfl)) (pe_fld (pe_fld (pv 0) rfl) rfl)) (pss_one (ps_ret (pv 1))) pss_nil)))
    (pss_one (ps_ret pe_non)), ?_⟩
  refine ⟨_, rfl, _, _, _, rfl, R.at_ 0 (by decide), ln_Store_good, c, S, rfl, R, fun l H1 s1 hl hl1 => ?_⟩
  refine ⟨l, rfl, ⟨_, SqL.of hl1⟩, for_list (K := K) (a := l) (xs := mkL c.B fun b => .int (b : Nat)) (fun i σ H5 => ∃ y : Option V, σ = [some (.ref (c.A 0)), y] ∧ Same H1 H5 ∧ ∀ b, b < i → ¬ isPart c.P S.m b)
    ⟨none, rfl, Same.refl _, fun b hb => absurd hb (by omega)⟩ (fun i σ H5 _ ⟨_, _, s5, _⟩ => s5.seq (SqL.of hl1)) ?_ ?_⟩
  · rintro i y σ H5 hi0 ⟨v, rfl, s5, hno⟩
    obtain ⟨hi, rfl⟩ := mkL_mem hi0
    have R5 := R.same (s1.trans s5)
    refine ⟨_, rfl, _, _, _, _, _, rfl, R5.at_ 0 (by decide), T.c_Store, T.nStore_book, lk_Store_book, _, _, _, _, _, rfl, R5.at_ 3 (by decide), T.c_Book, T.nBook_filled, lk_Book_filled, _, rfl, _, _, _, _, rfl, rfl, SqL.of (R5.at_ 15 (by decide)), atI_nat (mkL_get hi), _, _, rfl, rfl, _, rfl, ite2 (fun h1 => ?_) (fun h1 => ?_)⟩
    · have h1 := of_decide_eq_true h1
      refine ⟨_, rfl, _, _, _, _, _, rfl, R5.at_ 0 (by decide), T.c_Store, T.nStore_terms, lk_Store_terms, _, _, _, _, _, rfl, R5.at_ 2 (by decide), T.c_Terms, T.nTerms_pages, lk_Terms_pages, _, _, rfl, rfl, _, rfl, ite2 (fun h2 => ?_) (fun h2 => ?_)⟩
      · have h2 := of_decide_eq_true h2
        exact ⟨_, rfl, k1 i H5 hi ⟨by omega, by omega⟩ (s1.trans s5)⟩
      · have h2 : ¬ ((S.m.filled i : Nat) : Int) < c.P := fun z => h2 (decide_eq_true z)
        refine ⟨_, rfl, s5, fun b hb hp => ?_⟩
        by_cases e : b = i
        · subst e
          obtain ⟨p1, p2⟩ := hp
          omega
        · exact hno b (by omega) hp
    · have h1 : ¬ (0 : Int) < ((S.m.filled i : Nat) : Int) := fun z => h1 (decide_eq_true z)
      refine ⟨false, rfl, iteF ?_⟩
      refine ⟨_, rfl, s5, fun b hb hp => ?_⟩
      by_cases e : b = i
      · subst e
        obtain ⟨p1, p2⟩ := hp
        omega
      · exact hno b (by omega) hp
  · rintro σ H5 ⟨v, rfl, s5, hno⟩
    rw [mkL_len] at hno
    exact k2 H5 hno (s1.trans s5)
end
end Wp
namespace Wp
open PySem PySem.Spec PyProof.Rows L2
/-- the two ints of a pair -/
def kf (H : Hp) (v : V) : Int × Int := match v with
  | .ref t => (match H t with
    | some (.tup [.int a, .int b]) => (a, b)
    | _ => (0, 0))
  | _ => (0, 0)
theorem kf_at {H : Hp} {t : Addr} {a b : Int} (h : H t = some (.tup [.int a, .int b])) : kf H (.ref t) = (a, b) := by
  unfold kf
  simp only [h]
def canPut (B P : Nat) (m : MS) : Prop := (∃ b, b < B ∧ isPart P m b) ∨ 0 < nfree B m
def onePart (B P : Nat) (m : MS) : Prop := ∀ b d, b < B → d < B → isPart P m b → isPart P m d → b = d
/-- b is where the next page goes -/
structure Spot (B P : Nat) (m : MS) (b : Nat) : Prop where
  lt : b < B
  room : m.filled b < P
  only : ∀ d, d < B → isPart P m d → d = b
def spSpot (K : PySem.W.Frag) : Sp := fun vs H Q _ => ∃ (c : Cf) (S : WS), vs = [.ref (c.A 0)] ∧ Rep K c S H ∧ canPut c.B c.P S.m ∧ onePart c.B c.P S.m ∧
  ∀ b H', Spot c.B c.P S.m b → Same H H' → Q (.int (b * c.P + S.m.filled b : Nat)) H'
def spReserve (K : PySem.W.Frag) : Sp := fun vs H Q _ => ∃ (c : Cf) (S : WS), vs = [.ref (c.A 0)] ∧ Rep K c S H ∧ Q (.int (1 + c.ill : Nat)) H
/-- there is a part and as many free blocks as the reserve, or there are more -/
def rdy (c : Cf) (m : MS) : Prop := (∃ b, b < c.B ∧ isPart c.P m b) ∧ 1 + c.ill ≤ nfree c.B m ∨ 1 + c.ill < nfree c.B m
def spReady (K : PySem.W.Frag) : Sp := fun vs H Q _ => ∃ (c : Cf) (S : WS), vs = [.ref (c.A 0)] ∧ Rep K c S H ∧ ∀ (k : Bool) H', (k = true ↔ rdy c S.m) → Same H H' → Q (.bl k) H'
def spNeedSheet (K : PySem.W.Frag) : Sp := fun vs H Q _ => ∃ (c : Cf) (S : WS) (n : Nat), vs = [.ref (c.A 0), .int n] ∧ Rep K c S H ∧ n < 64 ∧ Q .non H
section
variable {P : Program} {w : World} {K : PySem.W.Frag} {mg : Str → Option Value} {base : Heap}
theorem sc_Store_free : FnScope ["self", "found", "block", "times"] ["self"] (defScope sPlain_free) := ⟨rfl, rfl, rfl, by decide +kernel, rfl, by decide +kernel, by decide +kernel⟩
theorem ok_Store_free (T : Txt K mg) : C8.Met P w K mg base 6 (He.ga K "Store") "free" (spFree K) [] := by
  refine met T.c_Store T.mStore_free T.dStore_free (ps := ["self"]) (fun _ _ _ _ _ _ us hl => match us, hl with | [_], _ => rfl) sc_Store_free (fun vs H Q E h => by obtain ⟨_, _, rfl, _⟩ := h; rfl) (fun cdv A outer s H vs Q E hr h => ?_)
  obtain ⟨c, S, rfl, R, k⟩ := h
  have hB2 := R.ok.B2
  refine ⟨_, pss_cons (ps_set (i := 1) sc_Store_free.nd rfl (.inl rfl) (pe_lst pa_nil))
    (pss_cons (ps_for PassesOwn.never rfl (pi_list (C8.pe_mt0 (ok_Store_good T) hr (by decide) (pv 0))) (pg_name (i := 2) sc_Store_free.nd rfl (Or.inl rfl))
      (pss_one (ps_if (pt_cmpR op_eq (pe_ix ix_list (pe_fld (pe_fld (pv 0) rfl) rfl) (pv 2) (fun _ _ => rfl)) pe_int (nomark _))
        (pss_one (ps_expr (pe_bm PySem.F.plainAttrs_list PySem.F.slot_list_append PySem.F.type_list_append mt_append (pv 1) (pa_cons (pe_tup (pa_cons (C8.pe_mt (ok_Chip_cleared T) hr (by decide) (pe_fld (pv 0) rfl) (pa_cons (pv 2) pa_nil)) (pa_cons (pv 2) pa_nil))) pa_nil)))) pss_nil)))
    (pss_one (ps_ret (pe_lc (own := [("times", 3), ("block", 2)]) (g := gTup K 2 (gCons (gName 3) (gCons (gName 2) gNil))) rfl sc_Store_free.nd (pi_list (pe_callB cr_sortedPO (by rfl) T.z_sorted (by decide +kernel) (pa_cons (pv 1) pa_nil))) (blkOk_by (N := ["self", "found", "block", "times"]) (sc := defScope sPlain_free) (by decide +kernel))
      (fun _ _ _ _ _ => pg_tup rfl (pgs_cons (pg_name (i := 3) sc_Store_free.nd rfl (Or.inl rfl)) (pgs_cons (pg_name (i := 2) sc_Store_free.nd rfl (Or.inl rfl)) pgs_nil))) (fun _ _ _ _ _ => pts_nil) (fun _ _ _ _ _ => pv 2))))), ?_⟩
  refine ⟨Nat.zero_le _, fun l hl => ?_⟩
  have s1 : Same H (upd H l (.lst [])) := same_new hl
  have R1 := R.same s1
  refine ⟨_, rfl, _, _, _, rfl, R1.at_ 0 (by decide), ln_Store_good, c, S, rfl, R1, fun g H2 s2 hg hg2 => ?_⟩
  have s12 := s1.trans s2
  have hl2 : H2 l = some (.lst []) := s2 _ _ upd_same
  refine ⟨g, rfl, ⟨_, SqL.of hg2⟩, for_list (K := K) (a := g) (xs := mkL c.B fun b => .int (b : Nat)) (fun i σ H5 => i ≤ c.B ∧ ∃ (y : Option V) (ts : List V) (L : List (Nat × Nat)), σ = [some (.ref (c.A 0)), some (.ref l), y, none] ∧ Same H H5 ∧ H5 g = some (.lst (mkL c.B fun b => .int (b : Nat))) ∧
      H5 l = some (.lst ts) ∧ TupL H5 ts L ∧ L.length = cnt i (fun b => S.m.filled b == 0) ∧ ∀ q ∈ L, q.2 < c.B ∧ S.m.filled q.2 = 0)
    ⟨Nat.zero_le _, none, [], [], rfl, s12, hg2, hl2, ⟨rfl, fun i v e => by simp at e⟩, rfl, fun q hq => by cases hq⟩ (fun i σ H5 _ ⟨_, _, _, _, _, _, e, _⟩ => SqL.of e) ?_ ?_⟩
  · rintro i y σ H5 hi0 ⟨hi2, v, ts, L, rfl, s5, hg5, hl5, hT, hlen, hL⟩
    obtain ⟨hi, rfl⟩ := mkL_mem hi0
    have R5 := R.same s5
    have hgl : g ≠ l := fun e => by rw [e] at hg; rw [upd_same] at hg; cases hg
    refine ⟨_, rfl, _, _, _, _, _, rfl, R5.at_ 0 (by decide), T.c_Store, T.nStore_book, lk_Store_book, _, _, _, _, _, rfl, R5.at_ 3 (by decide), T.c_Book, T.nBook_filled, lk_Book_filled, _, rfl, _, _, _, _, rfl, rfl, SqL.of (R5.at_ 15 (by decide)), atI_nat (mkL_get hi), rfl, _, rfl, ite2 (fun h1 => ?_) (fun h1 => ?_)⟩
    · have h0 : S.m.filled i = 0 := by
        have e : ((S.m.filled i : Nat) : Int) = 0 := V.int.inj (of_decide_eq_true h1)
        omega
      refine ⟨_, rfl, .inl ⟨rfl, _, SqL.of hl5⟩, _, rfl, _, _, _, _, _, rfl, R5.at_ 0 (by decide), T.c_Store, T.nStore_chip, lk_Store_chip, _, _, _, rfl, R5.at_ 1 (by decide), ln_Chip_cleared, _, rfl, c, S, i, rfl, R5, hi, _, rfl, (by show 2 ≤ sizeLine; decide), fun q hq => ?_⟩
      have hlq : l ≠ q := ne_of_none hl5 hq
      refine ⟨l, ts, _, rfl, rfl, (by rw [upd_ne hlq]; exact hl5), ?_, ?_⟩
      · rw [hT.len, hlen]
        exact Nat.lt_of_le_of_lt cnt_le (Nat.lt_of_le_of_lt hi2 (Nat.lt_of_le_of_lt hB2 (by decide)))
      · refine ⟨hi, _, ts ++ [.ref q], L ++ [(S.m.clr i, i)], rfl, fun b o e => ?_, ?_, upd_same, ?_, ?_, fun z hz => ?_⟩
        · rw [upd_ne (ne_of_none e hl), upd_ne (ne_of_none (s5 _ _ e) hq)]
          exact s5 _ _ e
        · rw [upd_ne hgl, upd_ne (ne_of_none hg5 hq)]
          exact hg5
        · exact (hT.keep fun t xs ht => by
            rw [upd_ne (ne_of ht hl5 (by intro z; cases z)), upd_ne (ne_of_none ht hq)]
            exact ht).snoc (by rw [upd_ne hlq.symm, upd_same])
        · rw [List.length_append, hlen]
          show cnt i _ + 1 = cnt i _ + _
          rw [if_pos (show (S.m.filled i == 0) = true by rw [h0]; rfl)]
        · rcases List.mem_append.mp hz with e | e
          · exact hL z e
          · rw [List.mem_singleton.mp e]
            exact ⟨hi, h0⟩
    · have h0 : S.m.filled i ≠ 0 := fun z => h1 (decide_eq_true (by rw [z]; rfl))
      refine ⟨hi, _, ts, L, rfl, s5, hg5, hl5, hT, ?_, hL⟩
      rw [hlen]
      show cnt i _ = cnt i _ + _
      rw [if_neg (by simp [h0])]
      rfl
  · rintro σ H5 ⟨_, v, ts, L, rfl, s5, hg5, hl5, hT, hlen, hL⟩
    rw [mkL_len] at hlen
    refine ⟨_, rfl, l, ts, kf H5, rfl, SqL.of hl5, fun x hx => ?_, fun ys p hs hb hp => ?_⟩
    · obtain ⟨i, hi, e⟩ := List.mem_iff_getElem.mp hx
      obtain ⟨t, a, b, e1, _, e3⟩ := hT.at_ i x (by rw [List.getElem?_eq_getElem hi, e])
      refine ⟨t, e1, ?_⟩
      rw [e1, kf_at e3]
      exact e3
    · have s6 : Same H (upd H5 p (.lst ys)) := s5.trans (same_new hp)
      refine ⟨p, rfl, ⟨_, SqL.of upd_same⟩, fun D hD => ?_⟩
      have hpD : p ≠ D := ne_of_none (upd_same (H := H5)) hD
      refine lc_list (K := K) (a := p) (xs := ys) (fun i H7 => ∃ acc : List Nat, H7 D = some (.lst (intsN acc)) ∧ acc.length = i ∧ i ≤ ys.length ∧ (∀ b ∈ acc, b < c.B ∧ S.m.filled b = 0) ∧ H7 p = some (.lst ys) ∧ ∀ b o, (upd H5 p (.lst ys)) b = some o → b ≠ D → H7 b = some o)
        ⟨[], upd_same, rfl, Nat.zero_le _, (fun b hb => by cases hb), (by rw [upd_ne hpD]; exact upd_same), fun b o e n => by rw [upd_ne n]; exact e⟩ (fun i H7 _ ⟨_, _, _, _, _, e, _⟩ => SqL.of e) (fun i x H7 hi hI => ?_) (fun H7 hI => ?_)
      · obtain ⟨acc, h1, h2, h3, h4, h5, h6⟩ := hI
        have hx : x ∈ ts := hb.perm.mem_iff.mp (List.mem_of_getElem? hi)
        obtain ⟨j, hj, e⟩ := List.mem_iff_getElem.mp hx
        obtain ⟨t, a, b, e1, e2, e3⟩ := hT.at_ j x (by rw [List.getElem?_eq_getElem hj, e])
        subst e1
        have hil : i < ys.length := (List.getElem?_eq_some_iff.mp hi).1
        have htD : t ≠ D := fun z => by rw [← z, upd_ne (ne_of_none e3 hp), e3] at hD; cases hD
        have ht7 : H7 t = some (.tup [.int (a : Nat), .int (b : Nat)]) := h6 _ _ (by rw [upd_ne (ne_of_none e3 hp)]; exact e3) htD
        refine ⟨t, _, rfl, SqT.of ht7, rfl, _, _, rfl, _, _, rfl, rfl, rfl, _, rfl, _, h1, ?_, ?_⟩
        · unfold intsN
          rw [List.length_map, h2]
          refine Nat.lt_of_lt_of_le hil ?_
          rw [hb.len, hT.len, hlen]
          exact Nat.le_trans cnt_le (Nat.le_trans hB2 (by decide))
        · refine ⟨acc ++ [b], ?_, by rw [List.length_append, h2]; rfl, hil, fun z hz => ?_, (by rw [upd_ne hpD]; exact h5), fun z o e n => by rw [upd_ne n]; exact h6 z o e n⟩
          · rw [upd_same]
            unfold intsN
            rw [List.map_append]
            rfl
          · rcases List.mem_append.mp hz with e | e
            · exact h4 z e
            · rw [List.mem_singleton.mp e]
              exact hL (a, b) (List.mem_of_getElem? e2)
      · obtain ⟨acc, h1, h2, h3, h4, h5, h6⟩ := hI
        refine k acc D H7 ?_ h4 (fun b o e => h6 b o (s6 b o e) fun z => ?_) ?_ h1
        · rw [h2, hb.len, hT.len, hlen]
          rfl
        · rw [← z, s6 b o e] at hD
          cases hD
        · exact s6.free hD
theorem sc_Store_reserve : FnScope ["self"] ["self"] (defScope sStore_reserve) := ⟨rfl, rfl, rfl, by decide +kernel, rfl, by decide +kernel, by decide +kernel⟩
theorem ok_Store_reserve (T : Txt K mg) : C8.Met P w K mg base 1 (He.ga K "Store") "reserve" (spReserve K) [] := by
  refine met T.c_Store T.mStore_reserve T.dStore_reserve (ps := ["self"]) (fun _ _ _ _ _ _ us hl => match us, hl with | [_], _ => rfl) sc_Store_reserve (fun vs H Q E h => by obtain ⟨_, _, rfl, _⟩ := h; rfl) (fun cdv A outer s H vs Q E hr h => ?_)
  obtain ⟨c, S, rfl, R, k⟩ := h
  refine ⟨_, pss_one (ps_ret (pe_op op_add pe_int (pe_fld (pe_fld (pv 0) rfl) rfl))), ?_⟩
  refine ⟨_, rfl, _, _, _, _, _, rfl, R.at_ 0 (by decide), T.c_Store, T.nStore_terms, lk_Store_terms, _, _, _, _, _, rfl, R.at_ 2 (by decide), T.c_Terms, T.nTerms_ill, lk_Terms_ill, _, _, rfl, rfl, ?_⟩
  have e : (1 : Int) + (c.ill : Int) = ((1 + c.ill : Nat) : Int) := by omega
  show Q (.int ((1 : Int) + (c.ill : Int))) H
  rw [e]
  exact k
theorem sc_Store_ready : FnScope ["self", "many"] ["self"] (defScope sPlain_ready) := ⟨rfl, rfl, rfl, by decide +kernel, rfl, by decide +kernel, by decide +kernel⟩
theorem ok_Store_ready (T : Txt K mg) : C8.Met P w K mg base 7 (He.ga K "Store") "ready" (spReady K) [] := by
  refine met T.c_Store T.mStore_ready T.dStore_ready (ps := ["self"]) (fun _ _ _ _ _ _ us hl => match us, hl with | [_], _ => rfl) sc_Store_ready (fun vs H Q E h => by obtain ⟨_, _, rfl, _⟩ := h; rfl) (fun cdv A outer s H vs Q E hr h => ?_)
  obtain ⟨c, S, rfl, R, k⟩ := h
  refine ⟨_, pss_cons (ps_set (i := 1) sc_Store_ready.nd rfl (.inl rfl) (pe_callB call_len_seq (by rfl) T.z_len PySem.boot_len (pa_cons (C8.pe_mt0 (ok_Store_free T) hr (by decide) (pv 0)) pa_nil)))
    (pss_cons (ps_if (pt_cmpR op_isN (C8.pe_mt0 (ok_Store_part T) hr (by decide) (pv 0)) pe_non (nomark _)) (pss_one (ps_ret (pe_cmpR op_gt (pv 1) (C8.pe_mt0 (ok_Store_reserve T) hr (by decide) (pv 0)) (nomark _)))) pss_nil)
    (pss_one (ps_ret (pe_cmpR op_ge (pv 1) (C8.pe_mt0 (ok_Store_reserve T) hr (by decide) (pv 0)) (nomark _))))), ?_⟩
  refine ⟨_, rfl, _, _, _, rfl, R.at_ 0 (by decide), ln_Store_free, c, S, rfl, R, fun fs l H1 hlen _ s1 hl hl1 => ?_⟩
  have R1 := R.same s1
  refine ⟨_, _, rfl, .inl (SqL.of hl1), ?_⟩
  have elen : ((intsN fs).length : Int) = ((nfree c.B S.m : Nat) : Int) := by unfold intsN; rw [List.length_map, hlen]
  refine ⟨_, rfl, _, _, _, rfl, R1.at_ 0 (by decide), ln_Store_part, c, S, rfl, R1, fun b H2 hb hp s2 => ?_, fun H2 hno s2 => ?_⟩
  · have R2 := R1.same s2
    refine ⟨rfl, _, rfl, iteF ?_⟩
    refine ⟨_, rfl, _, rfl, _, _, _, rfl, R2.at_ 0 (by decide), ln_Store_reserve, c, S, rfl, R2, _, _, rfl, rfl, ?_⟩
    refine k _ H2 ?_ (s1.trans s2)
    rw [decide_eq_true_iff, elen]
    constructor
    · intro z
      exact .inl ⟨⟨b, hb, hp⟩, by omega⟩
    · rintro (⟨_, z⟩ | z) <;> omega
  · have R2 := R1.same s2
    refine ⟨rfl, _, rfl, iteT ?_⟩
    refine ⟨_, rfl, _, rfl, _, _, _, rfl, R2.at_ 0 (by decide), ln_Store_reserve, c, S, rfl, R2, _, _, rfl, rfl, ?_⟩
    refine k _ H2 ?_ (s1.trans s2)
    rw [decide_eq_true_iff, elen]
    constructor
    · intro z
      exact .inr (by omega)
    · rintro (⟨⟨b, hb, hp⟩, _⟩ | z)
      · exact absurd hp (hno b hb)
      · omega
theorem sc_Store_spot : FnScope ["self", "block", "some"] ["self"] (defScope sPlain_spot) := ⟨rfl, rfl, rfl, by decide +kernel, rfl, by decide +kernel, by decide +kernel⟩
theorem ok_Store_spot (T : Txt K mg) : C8.Met P w K mg base 7 (He.ga K "Store") "spot" (spSpot K) [] := by
  refine met T.c_Store T.mStore_spot T.dStore_spot (ps := ["self"]) (fun _ _ _ _ _ _ us hl => match us, hl with | [_], _ => rfl) sc_Store_spot (fun vs H Q E h => by obtain ⟨_, _, rfl, _⟩ := h; rfl) (fun cdv A outer s H vs Q E hr h => ?_)
  obtain ⟨c, S, rfl, R, hc, ho, k⟩ := h
  have hP := R.ok.P1
  have hB2 := R.ok.B2
  refine ⟨_, pss_cons (ps_set (i := 1) sc_Store_spot.nd rfl (.inl rfl) (C8.pe_mt0 (ok_Store_part T) hr (by decide) (pv 0)))
    (pss_cons (ps_if (pt_cmpR op_isN (pv 1) pe_non (nomark _))
      (pss_cons (ps_set (i := 2) sc_Store_spot.nd rfl (.inl rfl) (C8.pe_mt0 (ok_Store_free T) hr (by decide) (pv 0)))
      (pss_cons (ps_if (pt_cmpR (op_eqNil hr.units) (pv 2) (pe_lst pa_nil) (nomark _)) pss_never pss_nil)
      (pss_one (ps_set (i := 1) sc_Store_spot.nd rfl (.inl rfl) (pe_ix ix_list (pv 2) pe_int (fun _ _ => rfl)))))) pss_nil)
    (pss_one (ps_ret (pe_op op_addNat (pe_op op_mulNat (pv 1) (pe_fld (pe_fld (pv 0) rfl) rfl)) (pe_ix ix_list (pe_fld (pe_fld (pv 0) rfl) rfl) (pv 1) (fun _ _ => rfl)))))), ?_⟩
  refine ⟨_, rfl, _, _, _, rfl, R.at_ 0 (by decide), ln_Store_part, c, S, rfl, R, fun b H2 hb hp s2 => ?_, fun H2 hno s2 => ?_⟩
  · have R2 := R.same s2
    refine ⟨_, rfl, rfl, _, rfl, iteF ?_⟩
    refine ⟨_, rfl, _, rfl, _, _, _, _, _, rfl, R2.at_ 0 (by decide), T.c_Store, T.nStore_terms, lk_Store_terms, _, _, _, _, _, rfl, R2.at_ 2 (by decide), T.c_Terms, T.nTerms_pages, lk_Terms_pages, _, _, rfl, rfl, by omega, _, rfl, _, _, _, _, _, rfl, R2.at_ 0 (by decide), T.c_Store, T.nStore_book, lk_Store_book, _, _, _, _, _, rfl, R2.at_ 3 (by decide), T.c_Book, T.nBook_filled, lk_Book_filled, _, rfl, _, _, _, _, rfl, rfl, SqL.of (R2.at_ 15 (by decide)), atI_nat (mkL_get hb), _, _, rfl, rfl, ?_⟩
    exact k b H2 ⟨hb, hp.2, fun d hd hq => ho d b hd hb hq hp⟩ s2
  · have R2 := R.same s2
    refine ⟨_, rfl, rfl, _, rfl, iteT ?_⟩
    refine ⟨_, rfl, _, _, _, rfl, R2.at_ 0 (by decide), ln_Store_free, c, S, rfl, R2, fun fs l H3 hlen hfs s3 hl hl3 => ?_⟩
    have hpos : 0 < fs.length := by
      rw [hlen]
      rcases hc with ⟨b, hb, hp⟩ | z
      · exact absurd hp (hno b hb)
      · exact z
    refine ⟨_, rfl, Nat.zero_le _, fun e he => ?_⟩
    have s4 : Same H3 (upd H3 e (.lst [])) := same_new he
    have R4 := R2.same (s3.trans s4)
    refine ⟨_, _, _, rfl, rfl, SqL.of (s4 _ _ hl3), flat_ints fs, SqL.of upd_same, _, rfl, ?_⟩
    obtain ⟨b, r, rfl⟩ : ∃ b r, fs = b :: r := by
      cases fs with
      | nil => cases hpos
      | cons b r => exact ⟨b, r, rfl⟩
    refine iteF ?_
    obtain ⟨hb, h0⟩ := hfs b List.mem_cons_self
    refine ⟨_, rfl, l, _, 0, _, rfl, rfl, SqL.of (s4 _ _ hl3), atI_nat (j := 0) rfl, ?_⟩
    refine ⟨_, rfl, _, rfl, _, _, _, _, _, rfl, R4.at_ 0 (by decide), T.c_Store, T.nStore_terms, lk_Store_terms, _, _, _, _, _, rfl, R4.at_ 2 (by decide), T.c_Terms, T.nTerms_pages, lk_Terms_pages, _, _, rfl, rfl, by omega, _, rfl, _, _, _, _, _, rfl, R4.at_ 0 (by decide), T.c_Store, T.nStore_book, lk_Store_book, _, _, _, _, _, rfl, R4.at_ 3 (by decide), T.c_Book, T.nBook_filled, lk_Book_filled, _, rfl, _, _, _, _, rfl, rfl, SqL.of (R4.at_ 15 (by decide)), atI_nat (mkL_get hb), _, _, rfl, rfl, ?_⟩
    exact k b _ ⟨hb, by omega, fun d hd hq => absurd hq (hno d hd)⟩ (s2.trans (s3.trans s4))
theorem sc_Store_need_sheet : FnScope ["self", "sheet"] ["self", "sheet"] (defScope sPlain_need_sheet) := ⟨rfl, rfl, rfl, by decide +kernel, rfl, by decide +kernel, by decide +kernel⟩
theorem ok_Store_need_sheet (T : Txt K mg) : C8.Met P w K mg base 3 (He.ga K "Store") "need_sheet" (spNeedSheet K) [] := by
  refine met T.c_Store T.mStore_need_sheet T.dStore_need_sheet (ps := ["self", "sheet"]) (fun _ _ _ _ _ _ us hl => match us, hl with | [_, _], _ => rfl) sc_Store_need_sheet (fun vs H Q E h => by obtain ⟨_, _, _, rfl, _⟩ := h; rfl) (fun cdv A outer s H vs Q E hr h => ?_)
  obtain ⟨c, S, n, rfl, R, hn, k⟩ := h
  refine ⟨_, pss_one (ps_if (pt_not (pt_val (C8.pe_c (ok_is_within T) hr (by decide) rfl (pa_cons (pv 1) (pa_cons pe_int (pa_cons (pe_op op_sub (pe_fld (pe_fld (pv 0) rfl) rfl) pe_int) pa_nil)))))) pss_never pss_nil), ?_⟩
  refine ⟨_, rfl, _, rfl, _, _, _, _, _, rfl, R.at_ 0 (by decide), T.c_Store, T.nStore_terms, lk_Store_terms, _, _, _, _, _, rfl, R.at_ 2 (by decide), T.c_Terms, T.nTerms_sheets, lk_Terms_sheets, _, _, rfl, rfl, _, _, _, rfl, fun b hb => ?_⟩
  have : b = true := hb.mpr ⟨by omega, by omega⟩
  subst this
  exact ⟨true, rfl, iteF k⟩
theorem sc_Store_held : FnScope ["self"] ["self"] (defScope sPlain_held) := ⟨rfl, rfl, rfl, by decide +kernel, rfl, by decide +kernel, by decide +kernel⟩
theorem ok_Store_held (T : Txt K mg) : C8.Met P w K mg base 2 (He.ga K "Store") "held" (spHeld K 0) [] := by
  refine met T.c_Store T.mStore_held T.dStore_held (ps := ["self"]) (fun _ _ _ _ _ _ us hl => match us, hl with | [_], _ => rfl) sc_Store_held (fun vs H Q E h => by obtain ⟨_, _, rfl, _⟩ := h; rfl) (fun cdv A outer s H vs Q E hr h => ?_)
  obtain ⟨c, S, rfl, R, hw, k⟩ := h
  refine ⟨_, pss_one (ps_ret (C8.pe_mt0 (ok_Book_held T) hr (by decide) (pe_fld (pv 0) rfl))), ?_⟩
  exact ⟨_, rfl, _, _, _, _, _, rfl, R.at_ 0 (by decide), T.c_Store, T.nStore_book, lk_Store_book, _, _, _, rfl, R.at_ 3 (by decide), ln_Book_held, c, S, rfl, R, hw, k⟩
end
end Wp
namespace Wp
open PySem PySem.Spec PyProof.Rows L2
/-- a tally of small numbers at t -/
structure TalAt (H : Hp) (t : Addr) (b l : Nat) (cl bo : Int) : Prop where
  at_ : H t = some (.tup [.int (b : Nat), .int (l : Nat), .int cl, .int bo])
  b1 : l ≤ 1000000
  b2 : bo.natAbs ≤ 1000000
def spAhead (C : Addr) : Sp := fun vs H Q _ => ∃ (r dr t u : Addr) (pg : Nat) (now : Int), vs = [.ref r, .ref t, .ref u, .int pg, .int now] ∧ H r = some (.ins C dr []) ∧ (∃ b l cl bo, TalAt H t b l cl bo) ∧ (∃ b l cl bo, TalAt H u b l cl bo) ∧ pg ≤ 1000000 ∧ now.natAbs ≤ 1000000 ∧ ∀ k : Bool, Q (.bl k) H
def spChoose (C : Addr) : Sp := fun vs H Q _ => ∃ (r dr a : Addr) (xs : List V) (pg : Nat) (now : Int), vs = [.ref r, .ref a, .int pg, .int now] ∧ H r = some (.ins C dr []) ∧ H a = some (.lst xs) ∧ xs ≠ [] ∧ (∀ x ∈ xs, ∃ t b l cl bo, x = V.ref t ∧ TalAt H t b l cl bo) ∧ pg ≤ 1000000 ∧ now.natAbs ≤ 1000000 ∧
  ∀ t b l cl bo H', V.ref t ∈ xs → TalAt H t b l cl bo → Same H H' → Q (.int (b : Nat)) H'
section
variable {P : Program} {w : World} {K : PySem.W.Frag} {mg : Str → Option Value} {base : Heap}
theorem sc_Rule_goes_ahead : FnScope ["self", "one", "other", "pages", "now"] ["self", "one", "other", "pages", "now"] (defScope sRule_goes_ahead) := ⟨rfl, rfl, rfl, by decide +kernel, rfl, by decide +kernel, by decide +kernel⟩
theorem ok_Rule_goes_ahead (T : Txt K mg) : C8.Met P w K mg base 1 (He.ga K "Rule") "goes_ahead" (spAhead (He.ga K "Rule")) [] := by
  refine met T.c_Rule T.mRule_goes_ahead T.dRule_goes_ahead (ps := ["self", "one", "other", "pages", "now"]) (fun _ _ _ _ _ _ us hl => match us, hl with | [_, _, _, _, _], _ => rfl) sc_Rule_goes_ahead (fun vs H Q E h => by obtain ⟨_, _, _, _, _, _, rfl, _⟩ := h; rfl) (fun cdv A outer s H vs Q E hr h => ?_)
  obtain ⟨r, dr, t, u, pg, now, rfl, hr0, ⟨b, l, cl, bo, h1⟩, ⟨b2, l2, cl2, bo2, h2⟩, hp, hn, k⟩ := h
  exact ⟨_, pss_one (ps_ret pe_bl), k _⟩
theorem sc_Fewest_goes_ahead : FnScope ["self", "one", "other", "pages", "now"] ["self", "one", "other", "pages", "now"] (defScope sFewest_goes_ahead) := ⟨rfl, rfl, rfl, by decide +kernel, rfl, by decide +kernel, by decide +kernel⟩
theorem ok_Fewest_goes_ahead (T : Txt K mg) : C8.Met P w K mg base 1 (He.ga K "Fewest") "goes_ahead" (spAhead (He.ga K "Fewest")) [] := by
  refine met T.c_Fewest T.mFewest_goes_ahead T.dFewest_goes_ahead (ps := ["self", "one", "other", "pages", "now"]) (fun _ _ _ _ _ _ us hl => match us, hl with | [_, _, _, _, _], _ => rfl) sc_Fewest_goes_ahead (fun vs H Q E h => by obtain ⟨_, _, _, _, _, _, rfl, _⟩ := h; rfl) (fun cdv A outer s H vs Q E hr h => ?_)
  obtain ⟨r, dr, t, u, pg, now, rfl, hr0, ⟨b, l, cl, bo, h1⟩, ⟨b2, l2, cl2, bo2, h2⟩, hp, hn, k⟩ := h
  refine ⟨_, pss_one (ps_ret (pe_cmpR op_lt (pe_ix ix_tup (pv 1) pe_int (fun _ _ => rfl)) (pe_ix ix_tup (pv 2) pe_int (fun _ _ => rfl)) (nomark _))), ?_⟩
  exact ⟨_, rfl, _, _, 1, _, rfl, rfl, SqT.of h1.at_, atI_nat (j := 1) rfl, _, rfl, _, _, 1, _, rfl, rfl, SqT.of h2.at_, atI_nat (j := 1) rfl, _, _, rfl, rfl, k _⟩
theorem sc_Eldest_goes_ahead : FnScope ["self", "one", "other", "pages", "now"] ["self", "one", "other", "pages", "now"] (defScope sEldest_goes_ahead) := ⟨rfl, rfl, rfl, by decide +kernel, rfl, by decide +kernel, by decide +kernel⟩
theorem ok_Eldest_goes_ahead (T : Txt K mg) : C8.Met P w K mg base 1 (He.ga K "Eldest") "goes_ahead" (spAhead (He.ga K "Eldest")) [] := by
  refine met T.c_Eldest T.mEldest_goes_ahead T.dEldest_goes_ahead (ps := ["self", "one", "other", "pages", "now"]) (fun _ _ _ _ _ _ us hl => match us, hl with | [_, _, _, _, _], _ => rfl) sc_Eldest_goes_ahead (fun vs H Q E h => by obtain ⟨_, _, _, _, _, _, rfl, _⟩ := h; rfl) (fun cdv A outer s H vs Q E hr h => ?_)
  obtain ⟨r, dr, t, u, pg, now, rfl, hr0, ⟨b, l, cl, bo, h1⟩, ⟨b2, l2, cl2, bo2, h2⟩, hp, hn, k⟩ := h
  refine ⟨_, pss_one (ps_ret (pe_cmpR op_lt (pe_ix ix_tup (pv 1) pe_int (fun _ _ => rfl)) (pe_ix ix_tup (pv 2) pe_int (fun _ _ => rfl)) (nomark _))), ?_⟩
  exact ⟨_, rfl, _, _, 3, _, rfl, rfl, SqT.of h1.at_, atI_nat (j := 3) rfl, _, rfl, _, _, 3, _, rfl, rfl, SqT.of h2.at_, atI_nat (j := 3) rfl, _, _, rfl, rfl, k _⟩
theorem sc_Worth_goes_ahead : FnScope ["self", "one", "other", "pages", "now", "here", "there"] ["self", "one", "other", "pages", "now"] (defScope sWorth_goes_ahead) := ⟨rfl, rfl, rfl, by decide +kernel, rfl, by decide +kernel, by decide +kernel⟩
theorem ok_Worth_goes_ahead (T : Txt K mg) : C8.Met P w K mg base 1 (He.ga K "Worth") "goes_ahead" (spAhead (He.ga K "Worth")) [] := by
  refine met T.c_Worth T.mWorth_goes_ahead T.dWorth_goes_ahead (ps := ["self", "one", "other", "pages", "now"]) (fun _ _ _ _ _ _ us hl => match us, hl with | [_, _, _, _, _], _ => rfl) sc_Worth_goes_ahead (fun vs H Q E h => by obtain ⟨_, _, _, _, _, _, rfl, _⟩ := h; rfl) (fun cdv A outer s H vs Q E hr h => ?_)
  obtain ⟨r, dr, t, u, pg, now, rfl, hr0, ⟨b, l, cl, bo, h1⟩, ⟨b2, l2, cl2, bo2, h2⟩, hp, hn, k⟩ := h
  have a1 := h1.b1
  have a2 := h2.b1
  refine ⟨_, pss_cons (ps_set (i := 5) sc_Worth_goes_ahead.nd rfl (.inl rfl) (pe_op op_mul (pe_op op_mul (pe_op op_sub (pv 3) (pe_ix ix_tup (pv 1) pe_int (fun _ _ => rfl))) (pe_op op_sub (pv 4) (pe_ix ix_tup (pv 1) pe_int (fun _ _ => rfl)))) (pe_op op_add (pv 3) (pe_ix ix_tup (pv 2) pe_int (fun _ _ => rfl)))))
    (pss_cons (ps_set (i := 6) sc_Worth_goes_ahead.nd rfl (.inl rfl) (pe_op op_mul (pe_op op_mul (pe_op op_sub (pv 3) (pe_ix ix_tup (pv 2) pe_int (fun _ _ => rfl))) (pe_op op_sub (pv 4) (pe_ix ix_tup (pv 2) pe_int (fun _ _ => rfl)))) (pe_op op_add (pv 3) (pe_ix ix_tup (pv 1) pe_int (fun _ _ => rfl)))))
    (pss_one (ps_ret (pe_cmpR op_gt (pv 5) (pv 6) (nomark _))))), ?_⟩
  refine ⟨_, rfl, _, rfl, _, _, 1, _, rfl, rfl, SqT.of h1.at_, atI_nat (j := 1) rfl, _, _, rfl, rfl, _, rfl, _, rfl, _, _, 3, _, rfl, rfl, SqT.of h1.at_, atI_nat (j := 3) rfl, _, _, rfl, rfl, _, _, rfl, rfl, .inl ⟨by omega, by omega⟩, _, rfl, _, rfl, _, _, 1, _, rfl, rfl, SqT.of h2.at_, atI_nat (j := 1) rfl, _, _, rfl, rfl, _, _, rfl, rfl, .inr ⟨by omega, by omega⟩, ?_⟩
  refine ⟨_, rfl, _, rfl, _, _, 1, _, rfl, rfl, SqT.of h2.at_, atI_nat (j := 1) rfl, _, _, rfl, rfl, _, rfl, _, rfl, _, _, 3, _, rfl, rfl, SqT.of h2.at_, atI_nat (j := 3) rfl, _, _, rfl, rfl, _, _, rfl, rfl, .inl ⟨by omega, by omega⟩, _, rfl, _, rfl, _, _, 1, _, rfl, rfl, SqT.of h1.at_, atI_nat (j := 1) rfl, _, _, rfl, rfl, _, _, rfl, rfl, .inr ⟨by omega, by omega⟩, ?_⟩
  exact ⟨_, rfl, _, rfl, _, _, rfl, rfl, k _⟩
theorem sc_Rule_choose : FnScope ["self", "tallies", "pages", "now", "best", "tally"] ["self", "tallies", "pages", "now"] (defScope sRule_choose) := ⟨rfl, rfl, rfl, by decide +kernel, rfl, by decide +kernel, by decide +kernel⟩
theorem ok_Rule_choose (T : Txt K mg) : C8.Met P w K mg base 2 (He.ga K "Rule") "choose" (spChoose (He.ga K "Rule")) [] := by
  refine met T.c_Rule T.mRule_choose T.dRule_choose (ps := ["self", "tallies", "pages", "now"]) (fun _ _ _ _ _ _ us hl => match us, hl with | [_, _, _, _], _ => rfl) sc_Rule_choose (fun vs H Q E h => by obtain ⟨_, _, _, _, _, _, rfl, _⟩ := h; rfl) (fun cdv A outer s H vs Q E hr h => ?_)
  obtain ⟨r, dr, a, xs, pg, now, rfl, hr0, ha, hne, hx, hp, hn, k⟩ := h
  obtain ⟨x0, rest, rfl⟩ : ∃ x0 rest, xs = x0 :: rest := by
    cases xs with
    | nil => exact absurd rfl hne
    | cons x0 rest => exact ⟨x0, rest, rfl⟩
  refine ⟨_, pss_cons (ps_set (i := 4) sc_Rule_choose.nd rfl (.inl rfl) (pe_ix ix_list (pv 1) pe_int (fun _ _ => rfl)))
    (pss_cons (ps_for PassesOwn.never rfl (pi_list (pe_slice sl_list (pv 1) (po_some pe_int) po_none)) (pg_name (i := 5) sc_Rule_choose.nd rfl (Or.inl rfl))
      (pss_one (ps_if (pt_val (C8.pe_mt (ok_Rule_goes_ahead T) hr (by decide) (pv 0) (pa_cons (pv 5) (pa_cons (pv 4) (pa_cons (pv 2) (pa_cons (pv 3) pa_nil)))))) (pss_one (ps_set (i := 4) sc_Rule_choose.nd rfl (.inl rfl) (pv 5))) pss_nil)))
    (pss_one (ps_ret (pe_ix ix_tup (pv 4) pe_int (fun _ _ => rfl))))), ?_⟩
  refine ⟨_, rfl, _, _, 0, _, rfl, rfl, SqL.of ha, atI_nat (j := 0) rfl, ?_⟩
  refine ⟨_, rfl, 1, rfl, a, _, rfl, SqL.of ha, fun q hq => ?_⟩
  have s1 : Same H (upd H q (.lst (cutV (x0 :: rest) (some 1) none))) := same_new hq
  have hsub : ∀ x ∈ cutV (x0 :: rest) (some 1) none, x ∈ x0 :: rest := fun x hm => List.mem_of_mem_drop (List.mem_of_mem_take hm)
  refine ⟨q, rfl, ⟨_, SqL.of upd_same⟩, for_list (K := K) (a := q) (xs := cutV (x0 :: rest) (some 1) none) (fun i σ H5 => ∃ (y : Option V) (z : V), σ = [some (.ref r), some (.ref a), some (.int pg), some (.int now), some z, y] ∧ z ∈ x0 :: rest ∧ H5 = upd H q (.lst (cutV (x0 :: rest) (some 1) none)))
    ⟨none, x0, rfl, List.mem_cons_self, rfl⟩ (fun i σ H5 _ ⟨_, _, _, _, e⟩ => by rw [e]; exact SqL.of upd_same) ?_ ?_⟩
  · rintro i x σ H5 hi ⟨y, z, rfl, hz, rfl⟩
    have hm := hsub x (List.mem_of_getElem? hi)
    obtain ⟨t, b, l, cl, bo, rfl, ht⟩ := hx x hm
    obtain ⟨t2, b2, l2, cl2, bo2, rfl, ht2⟩ := hx z hz
    refine ⟨_, rfl, r, dr, [], rfl, s1 _ _ hr0, rfl, _, rfl, _, rfl, _, rfl, _, rfl, r, dr, t, t2, pg, now, rfl, s1 _ _ hr0, ⟨b, l, cl, bo, s1 _ _ ht.at_, ht.b1, ht.b2⟩, ⟨b2, l2, cl2, bo2, s1 _ _ ht2.at_, ht2.b1, ht2.b2⟩, hp, hn, fun kk => ?_⟩
    cases kk with
    | true => exact ⟨true, rfl, iteT ⟨_, rfl, _, _, rfl, hm, rfl⟩⟩
    | false => exact ⟨false, rfl, iteF ⟨_, _, rfl, hz, rfl⟩⟩
  · rintro σ H5 ⟨y, z, rfl, hz, rfl⟩
    obtain ⟨t, b, l, cl, bo, rfl, ht⟩ := hx z hz
    exact ⟨_, rfl, _, _, 0, _, rfl, rfl, SqT.of (s1 _ _ ht.at_), atI_nat (j := 0) rfl, k t b l cl bo _ hz ht s1⟩
theorem sc_Fewest_choose : FnScope ["self", "tallies", "pages", "now", "best", "tally"] ["self", "tallies", "pages", "now"] (defScope sRule_choose) := ⟨rfl, rfl, rfl, by decide +kernel, rfl, by decide +kernel, by decide +kernel⟩
theorem ok_Fewest_choose (T : Txt K mg) : C8.Met P w K mg base 2 (He.ga K "Fewest") "choose" (spChoose (He.ga K "Fewest")) [] := by
  refine met T.c_Fewest T.mFewest_choose T.dFewest_choose (ps := ["self", "tallies", "pages", "now"]) (fun _ _ _ _ _ _ us hl => match us, hl with | [_, _, _, _], _ => rfl) sc_Fewest_choose (fun vs H Q E h => by obtain ⟨_, _, _, _, _, _, rfl, _⟩ := h; rfl) (fun cdv A outer s H vs Q E hr h => ?_)
  obtain ⟨r, dr, a, xs, pg, now, rfl, hr0, ha, hne, hx, hp, hn, k⟩ := h
  obtain ⟨x0, rest, rfl⟩ : ∃ x0 rest, xs = x0 :: rest := by
    cases xs with
    | nil => exact absurd rfl hne
    | cons x0 rest => exact ⟨x0, rest, rfl⟩
  refine ⟨_, pss_cons (ps_set (i := 4) sc_Fewest_choose.nd rfl (.inl rfl) (pe_ix ix_list (pv 1) pe_int (fun _ _ => rfl)))
    (pss_cons (ps_for PassesOwn.never rfl (pi_list (pe_slice sl_list (pv 1) (po_some pe_int) po_none)) (pg_name (i := 5) sc_Fewest_choose.nd rfl (Or.inl rfl))
      (pss_one (ps_if (pt_val (C8.pe_mt (ok_Fewest_goes_ahead T) hr (by decide) (pv 0) (pa_cons (pv 5) (pa_cons (pv 4) (pa_cons (pv 2) (pa_cons (pv 3) pa_nil)))))) (pss_one (ps_set (i := 4) sc_Fewest_choose.nd rfl (.inl rfl) (pv 5))) pss_nil)))
    (pss_one (ps_ret (pe_ix ix_tup (pv 4) pe_int (fun _ _ => rfl))))), ?_⟩
  refine ⟨_, rfl, _, _, 0, _, rfl, rfl, SqL.of ha, atI_nat (j := 0) rfl, ?_⟩
  refine ⟨_, rfl, 1, rfl, a, _, rfl, SqL.of ha, fun q hq => ?_⟩
  have s1 : Same H (upd H q (.lst (cutV (x0 :: rest) (some 1) none))) := same_new hq
  have hsub : ∀ x ∈ cutV (x0 :: rest) (some 1) none, x ∈ x0 :: rest := fun x hm => List.mem_of_mem_drop (List.mem_of_mem_take hm)
  refine ⟨q, rfl, ⟨_, SqL.of upd_same⟩, for_list (K := K) (a := q) (xs := cutV (x0 :: rest) (some 1) none) (fun i σ H5 => ∃ (y : Option V) (z : V), σ = [some (.ref r), some (.ref a), some (.int pg), some (.int now), some z, y] ∧ z ∈ x0 :: rest ∧ H5 = upd H q (.lst (cutV (x0 :: rest) (some 1) none)))
    ⟨none, x0, rfl, List.mem_cons_self, rfl⟩ (fun i σ H5 _ ⟨_, _, _, _, e⟩ => by rw [e]; exact SqL.of upd_same) ?_ ?_⟩
  · rintro i x σ H5 hi ⟨y, z, rfl, hz, rfl⟩
    have hm := hsub x (List.mem_of_getElem? hi)
    obtain ⟨t, b, l, cl, bo, rfl, ht⟩ := hx x hm
    obtain ⟨t2, b2, l2, cl2, bo2, rfl, ht2⟩ := hx z hz
    refine ⟨_, rfl, r, dr, [], rfl, s1 _ _ hr0, rfl, _, rfl, _, rfl, _, rfl, _, rfl, r, dr, t, t2, pg, now, rfl, s1 _ _ hr0, ⟨b, l, cl, bo, s1 _ _ ht.at_, ht.b1, ht.b2⟩, ⟨b2, l2, cl2, bo2, s1 _ _ ht2.at_, ht2.b1, ht2.b2⟩, hp, hn, fun kk => ?_⟩
    cases kk with
    | true => exact ⟨true, rfl, iteT ⟨_, rfl, _, _, rfl, hm, rfl⟩⟩
    | false => exact ⟨false, rfl, iteF ⟨_, _, rfl, hz, rfl⟩⟩
  · rintro σ H5 ⟨y, z, rfl, hz, rfl⟩
    obtain ⟨t, b, l, cl, bo, rfl, ht⟩ := hx z hz
    exact ⟨_, rfl, _, _, 0, _, rfl, rfl, SqT.of (s1 _ _ ht.at_), atI_nat (j := 0) rfl, k t b l cl bo _ hz ht s1⟩
theorem sc_Eldest_choose : FnScope ["self", "tallies", "pages", "now", "best", "tally"] ["self", "tallies", "pages", "now"] (defScope sRule_choose) := ⟨rfl, rfl, rfl, by decide +kernel, rfl, by decide +kernel, by decide +kernel⟩
theorem ok_Eldest_choose (T : Txt K mg) : C8.Met P w K mg base 2 (He.ga K "Eldest") "choose" (spChoose (He.ga K "Eldest")) [] := by
  refine met T.c_Eldest T.mEldest_choose T.dEldest_choose (ps := ["self", "tallies", "pages", "now"]) (fun _ _ _ _ _ _ us hl => match us, hl with | [_, _, _, _], _ => rfl) sc_Eldest_choose (fun vs H Q E h => by obtain ⟨_, _, _, _, _, _, rfl, _⟩ := h; rfl) (fun cdv A outer s H vs Q E hr h => ?_)
  obtain ⟨r, dr, a, xs, pg, now, rfl, hr0, ha, hne, hx, hp, hn, k⟩ := h
  obtain ⟨x0, rest, rfl⟩ : ∃ x0 rest, xs = x0 :: rest := by
    cases xs with
    | nil => exact absurd rfl hne
    | cons x0 rest => exact ⟨x0, rest, rfl⟩
  refine ⟨_, pss_cons (ps_set (i := 4) sc_Eldest_choose.nd rfl (.inl rfl) (pe_ix ix_list (pv 1) pe_int (fun _ _ => rfl)))
    (pss_cons (ps_for PassesOwn.never rfl (pi_list (pe_slice sl_list (pv 1) (po_some pe_int) po_none)) (pg_name (i := 5) sc_Eldest_choose.nd rfl (Or.inl rfl))
      (pss_one (ps_if (pt_val (C8.pe_mt (ok_Eldest_goes_ahead T) hr (by decide) (pv 0) (pa_cons (pv 5) (pa_cons (pv 4) (pa_cons (pv 2) (pa_cons (pv 3) pa_nil)))))) (pss_one (ps_set (i := 4) sc_Eldest_choose.nd rfl (.inl rfl) (pv 5))) pss_nil)))
    (pss_one (ps_ret (pe_ix ix_tup (pv 4) pe_int (fun _ _ => rfl))))), ?_⟩
  refine ⟨_, rfl, _, _, 0, _, rfl, rfl, SqL.of ha, atI_nat (j := 0) rfl, ?_⟩
  refine ⟨_, rfl, 1, rfl, a, _, rfl, SqL.of ha, fun q hq => ?_⟩
  have s1 : Same H (upd H q (.lst (cutV (x0 :: rest) (some 1) none))) := same_new hq
  have hsub : ∀ x ∈ cutV (x0 :: rest) (some 1) none, x ∈ x0 :: rest := fun x hm => List.mem_of_mem_drop (List.mem_of_mem_take hm)
  refine ⟨q, rfl, ⟨_, SqL.of upd_same⟩, for_list (K := K) (a := q) (xs := cutV (x0 :: rest) (some 1) none) (fun i σ H5 => ∃ (y : Option V) (z : V), σ = [some (.ref r), some (.ref a), some (.int pg), some (.int now), some z, y] ∧ z ∈ x0 :: rest ∧ H5 = upd H q (.lst (cutV (x0 :: rest) (some 1) none)))
    ⟨none, x0, rfl, List.mem_cons_self, rfl⟩ (fun i σ H5 _ ⟨_, _, _, _, e⟩ => by rw [e]; exact SqL.of upd_same) ?_ ?_⟩
  · rintro i x σ H5 hi ⟨y, z, rfl, hz, rfl⟩
    have hm := hsub x (List.mem_of_getElem? hi)
    obtain ⟨t, b, l, cl, bo, rfl, ht⟩ := hx x hm
    obtain ⟨t2, b2, l2, cl2, bo2, rfl, ht2⟩ := hx z hz
    refine ⟨_, rfl, r, dr, [], rfl, s1 _ _ hr0, rfl, _, rfl, _, rfl, _, rfl, _, rfl, r, dr, t, t2, pg, now, rfl, s1 _ _ hr0, ⟨b, l, cl, bo, s1 _ _ ht.at_, ht.b1, ht.b2⟩, ⟨b2, l2, cl2, bo2, s1 _ _ ht2.at_, ht2.b1, ht2.b2⟩, hp, hn, fun kk => ?_⟩
    cases kk with
    | true => exact ⟨true, rfl, iteT ⟨_, rfl, _, _, rfl, hm, rfl⟩⟩
    | false => exact ⟨false, rfl, iteF ⟨_, _, rfl, hz, rfl⟩⟩
  · rintro σ H5 ⟨y, z, rfl, hz, rfl⟩
    obtain ⟨t, b, l, cl, bo, rfl, ht⟩ := hx z hz
    exact ⟨_, rfl, _, _, 0, _, rfl, rfl, SqT.of (s1 _ _ ht.at_), atI_nat (j := 0) rfl, k t b l cl bo _ hz ht s1⟩
theorem sc_Worth_choose : FnScope ["self", "tallies", "pages", "now", "best", "tally"] ["self", "tallies", "pages", "now"] (defScope sRule_choose) := ⟨rfl, rfl, rfl, by decide +kernel, rfl, by decide +kernel, by decide +kernel⟩
theorem ok_Worth_choose (T : Txt K mg) : C8.Met P w K mg base 2 (He.ga K "Worth") "choose" (spChoose (He.ga K "Worth")) [] := by
  refine met T.c_Worth T.mWorth_choose T.dWorth_choose (ps := ["self", "tallies", "pages", "now"]) (fun _ _ _ _ _ _ us hl => match us, hl with | [_, _, _, _], _ => rfl) sc_Worth_choose (fun vs H Q E h => by obtain ⟨_, _, _, _, _, _, rfl, _⟩ := h; rfl) (fun cdv A outer s H vs Q E hr h => ?_)
  obtain ⟨r, dr, a, xs, pg, now, rfl, hr0, ha, hne, hx, hp, hn, k⟩ := h
  obtain ⟨x0, rest, rfl⟩ : ∃ x0 rest, xs = x0 :: rest := by
    cases xs with
    | nil => exact absurd rfl hne
    | cons x0 rest => exact ⟨x0, rest, rfl⟩
  refine ⟨_, pss_cons (ps_set (i := 4) sc_Worth_choose.nd rfl (.inl rfl) (pe_ix ix_list (pv 1) pe_int (fun _ _ => rfl)))
    (pss_cons (ps_for PassesOwn.never rfl (pi_list (pe_slice sl_list (pv 1) (po_some pe_int) po_none)) (pg_name (i := 5) sc_Worth_choose.nd rfl (Or.inl rfl))
      (pss_one (ps_if (pt_val (C8.pe_mt (ok_Worth_goes_ahead T) hr (by decide) (pv 0) (pa_cons (pv 5) (pa_cons (pv 4) (pa_cons (pv 2) (pa_cons (pv 3) pa_nil)))))) (pss_one (ps_set (i := 4) sc_Worth_choose.nd rfl (.inl rfl) (pv 5))) pss_nil)))
    (pss_one (ps_ret (pe_ix ix_tup (pv 4) pe_int (fun _ _ => rfl))))), ?_⟩
  refine ⟨_, rfl, _, _, 0, _, rfl, rfl, SqL.of ha, atI_nat (j := 0) rfl, ?_⟩
  refine ⟨_, rfl, 1, rfl, a, _, rfl, SqL.of ha, fun q hq => ?_⟩
  have s1 : Same H (upd H q (.lst (cutV (x0 :: rest) (some 1) none))) := same_new hq
  have hsub : ∀ x ∈ cutV (x0 :: rest) (some 1) none, x ∈ x0 :: rest := fun x hm => List.mem_of_mem_drop (List.mem_of_mem_take hm)
  refine ⟨q, rfl, ⟨_, SqL.of upd_same⟩, for_list (K := K) (a := q) (xs := cutV (x0 :: rest) (some 1) none) (fun i σ H5 => ∃ (y : Option V) (z : V), σ = [some (.ref r), some (.ref a), some (.int pg), some (.int now), some z, y] ∧ z ∈ x0 :: rest ∧ H5 = upd H q (.lst (cutV (x0 :: rest) (some 1) none)))
    ⟨none, x0, rfl, List.mem_cons_self, rfl⟩ (fun i σ H5 _ ⟨_, _, _, _, e⟩ => by rw [e]; exact SqL.of upd_same) ?_ ?_⟩
  · rintro i x σ H5 hi ⟨y, z, rfl, hz, rfl⟩
    have hm := hsub x (List.mem_of_getElem? hi)
    obtain ⟨t, b, l, cl, bo, rfl, ht⟩ := hx x hm
    obtain ⟨t2, b2, l2, cl2, bo2, rfl, ht2⟩ := hx z hz
    refine ⟨_, rfl, r, dr, [], rfl, s1 _ _ hr0, rfl, _, rfl, _, rfl, _, rfl, _, rfl, r, dr, t, t2, pg, now, rfl, s1 _ _ hr0, ⟨b, l, cl, bo, s1 _ _ ht.at_, ht.b1, ht.b2⟩, ⟨b2, l2, cl2, bo2, s1 _ _ ht2.at_, ht2.b1, ht2.b2⟩, hp, hn, fun kk => ?_⟩
    cases kk with
    | true => exact ⟨true, rfl, iteT ⟨_, rfl, _, _, rfl, hm, rfl⟩⟩
    | false => exact ⟨false, rfl, iteF ⟨_, _, rfl, hz, rfl⟩⟩
  · rintro σ H5 ⟨y, z, rfl, hz, rfl⟩
    obtain ⟨t, b, l, cl, bo, rfl, ht⟩ := hx z hz
    exact ⟨_, rfl, _, _, 0, _, rfl, rfl, SqT.of (s1 _ _ ht.at_), atI_nat (j := 0) rfl, k t b l cl bo _ hz ht s1⟩
end
end Wp
namespace Wp
open PySem PySem.Spec PyProof.Rows L2
theorem Good.one_part {B P : Nat} {m : MS} (G : Good B P m) : onePart B P m := fun b d hb hd h1 h2 => G.one b d hb hd h1.1 h1.2 h2.1 h2.2
theorem Good.live1 {B P : Nat} {m : MS} (G : Good B P m) {n q : Nat} (h : m.whr n = some q) : q < B * P ∧ 1 ≤ m.live (q / P) := by
  obtain ⟨_, h2, h3⟩ := G.wh n q h
  refine ⟨h2, ?_⟩
  have hb := pg_blk h2
  rw [G.lv _ hb]
  refine cnt_pos (a := q % P) (pg_off G.pos) ?_
  show (m.names (q / P * P + q % P)).isSome = true
  rw [pg_eq, h3]
  rfl
theorem Good.w65 {B P : Nat} {m : MS} (G : Good B P m) : ∀ n p, m.whr n = some p → n < 65 := fun n p h => (G.wh n p h).1
theorem Good.live_le {B P : Nat} {m : MS} (G : Good B P m) {b : Nat} (h : b < B) : m.live b ≤ P := by
  rw [G.lv b h]
  exact cnt_le
/-- bounds of what grows -/
structure Bud (S : WS) (d : Nat) : Prop where
  log : S.log.length ≤ d
  pap : S.papers.length ≤ d
  st0 : 0 ≤ S.m.stamp
  st1 : S.m.stamp ≤ d + 1
  clr : ∀ b, S.m.clr b ≤ d
  born : ∀ b, 0 ≤ S.m.born b ∧ S.m.born b ≤ d + 1
def wput (c : Cf) (S : WS) (b n t : Nat) (z : Int) (kvs : List (Key × V)) (x : V) : WS := { S with m := put c.P S.m b n t z, kvs := kvs, log := S.log ++ [x] }
def spLay (K : PySem.W.Frag) : Sp := fun vs H Q _ => ∃ (c : Cf) (S : WS) (n : Nat) (z : Int), vs = [.ref (c.A 0), .int n, .int z] ∧ Rep K c S H ∧ Good c.B c.P S.m ∧ canPut c.B c.P S.m ∧ n < 65 ∧ (∃ d, Bud S d ∧ d ≤ 100000) ∧
  ∀ b t kvs x H', Spot c.B c.P S.m b → Rep K c (wput c S b n t z kvs x) H' → Fr c H H' → Q (.int (b * c.P + S.m.filled b : Nat)) H'
def spValueFor (K : PySem.W.Frag) : Sp := fun vs H Q _ => ∃ (c : Cf) (S : WS) (p n : Nat), vs = [.ref (c.A 0), .int p, .int n] ∧ Rep K c S H ∧ Good c.B c.P S.m ∧ p < c.B * c.P ∧ (S.m.stuff p).isSome = true ∧
  ∀ z H', (n ≠ 64 → ∃ t, S.m.stuff p = some (t, z)) → Same H H' → Q (.int z) H'
def spSpace (K : PySem.W.Frag) : Sp := fun vs H Q _ => ∃ (c : Cf) (S : WS), vs = [.ref (c.A 0)] ∧ Rep K c S H ∧ 1 + c.ill ≤ nfree c.B S.m ∧ ∀ H', Same H H' → Q (.int c.P) H'
def spTally (K : PySem.W.Frag) : Sp := fun vs H Q _ => ∃ (c : Cf) (S : WS) (b : Nat), vs = [.ref (c.A 0), .int b] ∧ Rep K c S H ∧ b < c.B ∧
  ∀ t H', Same H H' → H t = none → H' t = some (.tup [.int (b : Nat), .int (S.m.live b : Nat), .int (S.m.clr b : Nat), .int (S.m.born b)]) → Q (.ref t) H'
/-- the tallies of some full blocks -/
structure Tals (c : Cf) (m : MS) (lim : Nat) (H : Hp) (ts : List V) : Prop where
  at_ : ∀ x ∈ ts, ∃ (t : Addr) (b : Nat), x = V.ref t ∧ b < c.B ∧ m.filled b = c.P ∧ m.live b < lim ∧ H t = some (.tup [.int (b : Nat), .int (m.live b : Nat), .int (m.clr b : Nat), .int (m.born b)])
theorem Tals.keep {c : Cf} {m : MS} {lim : Nat} {H H' : Hp} {ts : List V} (h : Tals c m lim H ts) (k : ∀ t xs, H t = some (.tup xs) → H' t = some (.tup xs)) : Tals c m lim H' ts :=
  ⟨fun x hx => let ⟨t, b, e1, e2, e3, e4, e5⟩ := h.at_ x hx; ⟨t, b, e1, e2, e3, e4, k _ _ e5⟩⟩
def spFull (K : PySem.W.Frag) : Sp := fun vs H Q _ => ∃ (c : Cf) (S : WS), vs = [.ref (c.A 0)] ∧ Rep K c S H ∧ Good c.B c.P S.m ∧ 1 + c.ill ≤ nfree c.B S.m ∧
  ∀ ts l H', Tals c S.m (c.P + 1) H' ts → ts.length ≤ c.B → (∀ b, b < c.B → S.m.filled b = c.P → ∃ t, V.ref t ∈ ts ∧ H' t = some (.tup [.int (b : Nat), .int (S.m.live b : Nat), .int (S.m.clr b : Nat), .int (S.m.born b)])) → Same H H' → H l = none → H' l = some (.lst ts) → Q (.ref l) H'
def spOptions (K : PySem.W.Frag) : Sp := fun vs H Q _ => ∃ (c : Cf) (S : WS), vs = [.ref (c.A 0)] ∧ Rep K c S H ∧ Good c.B c.P S.m ∧ 1 + c.ill ≤ nfree c.B S.m ∧ (∃ b, b < c.B ∧ S.m.filled b = c.P ∧ S.m.live b < c.P) ∧
  ∀ ts l H', Tals c S.m c.P H' ts → ts.length ≤ c.B → ts ≠ [] → Same H H' → H l = none → H' l = some (.lst ts) → Q (.ref l) H'
def spChoice (K : PySem.W.Frag) : Sp := fun vs H Q _ => ∃ (c : Cf) (S : WS), vs = [.ref (c.A 0)] ∧ Rep K c S H ∧ Good c.B c.P S.m ∧ 1 + c.ill ≤ nfree c.B S.m ∧ (∃ b, b < c.B ∧ S.m.filled b = c.P ∧ S.m.live b < c.P) ∧ (∃ d, Bud S d ∧ d ≤ 100000) ∧
  ∀ t b H', b < c.B → S.m.filled b = c.P → S.m.live b < c.P → Same H H' → H t = none → H' t = some (.tup [.str "rule", .int (b : Nat)]) → Q (.ref t) H'
section
variable {P : Program} {w : World} {K : PySem.W.Frag} {mg : Str → Option Value} {base : Heap}
theorem sc_Store_set_down : FnScope ["self", "name", "value", "page"] ["self", "name", "value"] (defScope sPlain_set_down) := ⟨rfl, rfl, rfl, by decide +kernel, rfl, by decide +kernel, by decide +kernel⟩
theorem ok_Store_set_down (T : Txt K mg) : C8.Met P w K mg base 8 (He.ga K "Store") "set_down" (spLay K) [] := by
  refine met T.c_Store T.mStore_set_down T.dStore_set_down (ps := ["self", "name", "value"]) (fun _ _ _ _ _ _ us hl => match us, hl with | [_, _, _], _ => rfl) sc_Store_set_down (fun vs H Q E h => by obtain ⟨_, _, _, _, rfl, _⟩ := h; rfl) (fun cdv A outer s H vs Q E hr h => ?_)
  obtain ⟨c, S, n, z, rfl, R, G, hc, hn, ⟨d, B, hd⟩, k⟩ := h
  have b1 := B.st0
  have b2 := B.st1
  refine ⟨_, pss_cons (ps_set (i := 3) sc_Store_set_down.nd rfl (.inl rfl) (C8.pe_mt0 (ok_Store_spot T) hr (by decide) (pv 0)))
    (pss_cons (ps_if (pt_cmpR op_isN (pv 3) pe_non (nomark _)) pss_never pss_nil)
    (pss_cons (ps_expr (C8.pe_mt (ok_Chip_put T) hr (by decide) (pe_fld (pv 0) rfl) (pa_cons (pv 3) (pa_cons (pe_tup (pa_cons (C8.pe_mt (ok_Book_mark T) hr (by decide) (pe_fld (pv 0) rfl) (pa_cons (pv 1) pa_nil)) (pa_cons (pv 2) pa_nil))) pa_nil))))
    (pss_cons (ps_expr (C8.pe_mt (ok_Book_note T) hr (by decide) (pe_fld (pv 0) rfl) (pa_cons (pv 3) (pa_cons (pv 1) pa_nil))))
    (pss_one (ps_ret (pv 3)))))), ?_⟩
  refine ⟨_, rfl, _, _, _, rfl, R.at_ 0 (by decide), ln_Store_spot, c, S, rfl, R, hc, G.one_part, fun b H1 hb s1 => ?_⟩
  have R1 := R.same s1
  have hp := pg_lt hb.lt hb.room
  refine ⟨_, rfl, rfl, _, rfl, iteF ?_⟩
  refine ⟨_, rfl, _, _, _, _, _, rfl, R1.at_ 0 (by decide), T.c_Store, T.nStore_chip, lk_Store_chip, _, _, _, rfl, R1.at_ 1 (by decide), ln_Chip_put, _, rfl, _, rfl, _, _, _, _, _, rfl, R1.at_ 0 (by decide), T.c_Store, T.nStore_book, lk_Store_book, _, _, _, rfl, R1.at_ 3 (by decide), ln_Book_mark, _, rfl, c, S, n, rfl, R1, by omega, fun kk => ?_⟩
  refine ⟨_, rfl, (by show 2 ≤ sizeLine; decide), fun t ht => ?_⟩
  have s2 : Same H1 (upd H1 t (.tup [.int kk, .int z])) := same_new ht
  have R2 := R1.same s2
  have hst : S.m.stuff (b * c.P + S.m.filled b) = none := by
    cases e : S.m.stuff (b * c.P + S.m.filled b) with
    | none => rfl
    | some q =>
      have := (G.st b _ hb.lt hb.room).mp (by rw [e]; rfl)
      omega
  refine ⟨c, S, _, t, kk, z, rfl, R2, hp, hst, upd_same, Nat.le_trans B.log hd, fun x H3 R3 F3 => ?_⟩
  refine ⟨_, rfl, _, _, _, _, _, rfl, R3.at_ 0 (by decide), T.c_Store, T.nStore_book, lk_Store_book, _, _, _, rfl, R3.at_ 3 (by decide), ln_Book_note, _, rfl, _, rfl, c, _, _, n, rfl, R3, hp, (fun q hq => G.live1 hq), (fun m p hm => G.w65 m p hm), fun kvs H4 R4 F4 => ?_⟩
  exact ⟨_, rfl, k b t kvs x H4 hb R4 (Fr.trans (Fr.same (s1.trans s2)) (Fr.trans F3 F4))⟩
theorem sc_Store_lay : FnScope ["self", "name", "value"] ["self", "name", "value"] (defScope sPlain_lay) := ⟨rfl, rfl, rfl, by decide +kernel, rfl, by decide +kernel, by decide +kernel⟩
theorem ok_Store_lay (T : Txt K mg) : C8.Met P w K mg base 9 (He.ga K "Store") "lay" (spLay K) [] := by
  refine met T.c_Store T.mStore_lay T.dStore_lay (ps := ["self", "name", "value"]) (fun _ _ _ _ _ _ us hl => match us, hl with | [_, _, _], _ => rfl) sc_Store_lay (fun vs H Q E h => by obtain ⟨_, _, _, _, rfl, _⟩ := h; rfl) (fun cdv A outer s H vs Q E hr h => ?_)
  have h' := h
  obtain ⟨c, S, n, z, rfl, R, _⟩ := h'
  exact ⟨_, pss_one (ps_ret (C8.pe_mt (ok_Store_set_down T) hr (by decide) (pv 0) (pa_cons (pv 1) (pa_cons (pv 2) pa_nil)))), _, rfl, _, _, _, rfl, R.at_ 0 (by decide), ln_Store_set_down, _, rfl, _, rfl, h⟩
theorem sc_Store_value_for : FnScope ["self", "page", "name"] ["self", "page", "name"] (defScope sStore_value_for) := ⟨rfl, rfl, rfl, by decide +kernel, rfl, by decide +kernel, by decide +kernel⟩
theorem ok_Store_value_for (T : Txt K mg) : C8.Met P w K mg base 6 (He.ga K "Store") "value_for" (spValueFor K) [] := by
  refine met T.c_Store T.mStore_value_for T.dStore_value_for (ps := ["self", "page", "name"]) (fun _ _ _ _ _ _ us hl => match us, hl with | [_, _, _], _ => rfl) sc_Store_value_for (fun vs H Q E h => by obtain ⟨_, _, _, _, rfl, _⟩ := h; rfl) (fun cdv A outer s H vs Q E hr h => ?_)
  obtain ⟨c, S, p, n, rfl, R, G, hp, hs, k⟩ := h
  obtain ⟨tR, hR⟩ := T.i_ROLL
  obtain ⟨⟨t, z⟩, hz⟩ := Option.isSome_iff_exists.mp hs
  obtain ⟨kk, ht⟩ := R.tup p t z hp hz
  refine ⟨_, pss_cons (ps_if (pt_cmpR op_eq (pv 2) (C8.pe_gc (v := .int 64) rfl ⟨_, hR, _, rfl⟩) (nomark _)) (pss_one (ps_ret (C8.pe_c (ok_bits_of T) hr (by decide) rfl (pa_cons (C8.pe_mt0 (ok_Book_held T) hr (by decide) (pe_fld (pv 0) rfl)) pa_nil)))) pss_nil)
    (pss_one (ps_ret (pe_ix ix_tup (C8.pe_mt (ok_Chip_read T) hr (by decide) (pe_fld (pv 0) rfl) (pa_cons (pv 1) pa_nil)) pe_int (fun _ _ => rfl)))), ?_⟩
  refine ⟨_, rfl, rfl, _, rfl, ite2 (fun h1 => ?_) (fun h1 => ?_)⟩
  · have h1 : n = 64 := by
      have e : ((n : Nat) : Int) = 64 := V.int.inj (of_decide_eq_true h1)
      omega
    refine ⟨_, rfl, _, _, _, _, _, rfl, R.at_ 0 (by decide), T.c_Store, T.nStore_book, lk_Store_book, _, _, _, rfl, R.at_ 3 (by decide), ln_Book_held, c, S, rfl, R, G.w65, fun hs l H1 _ hm s1 hl hl1 => ?_⟩
    exact ⟨l, hs, rfl, SqL.of hl1, (fun m hm2 => by have := (hm m).mp hm2; omega), fun z' => k z' H1 (fun q => absurd h1 q) s1⟩
  · have h1 : n ≠ 64 := fun e => h1 (decide_eq_true (by rw [e]; rfl))
    refine ⟨_, rfl, _, _, _, _, _, rfl, R.at_ 0 (by decide), T.c_Store, T.nStore_chip, lk_Store_chip, _, _, _, rfl, R.at_ 1 (by decide), ln_Chip_read, _, rfl, c, S, p, rfl, R, hp, ?_⟩
    rw [hz]
    exact ⟨_, _, 1, _, rfl, rfl, SqT.of ht, atI_nat (j := 1) rfl, k z H (fun _ => ⟨t, hz⟩) (Same.refl H)⟩
theorem sc_Store_space : FnScope ["self", "part"] ["self"] (defScope sStore_space) := ⟨rfl, rfl, rfl, by decide +kernel, rfl, by decide +kernel, by decide +kernel⟩
theorem ok_Store_space (T : Txt K mg) : C8.Met P w K mg base 7 (He.ga K "Store") "space" (spSpace K) [] := by
  refine met T.c_Store T.mStore_space T.dStore_space (ps := ["self"]) (fun _ _ _ _ _ _ us hl => match us, hl with | [_], _ => rfl) sc_Store_space (fun vs H Q E h => by obtain ⟨_, _, rfl, _⟩ := h; rfl) (fun cdv A outer s H vs Q E hr h => ?_)
  obtain ⟨c, S, rfl, R, hf, k⟩ := h
  refine ⟨_, pss_cons (ps_if (pt_cmpR op_ge (pe_callB call_len_seq (by rfl) T.z_len PySem.boot_len (pa_cons (C8.pe_mt0 (ok_Store_free T) hr (by decide) (pv 0)) pa_nil)) (C8.pe_mt0 (ok_Store_reserve T) hr (by decide) (pv 0)) (nomark _)) (pss_one (ps_ret (pe_fld (pe_fld (pv 0) rfl) rfl))) pss_nil) pss_never, ?_⟩
  refine ⟨_, rfl, _, _, _, rfl, R.at_ 0 (by decide), ln_Store_free, c, S, rfl, R, fun fs l H1 hlen _ s1 hl hl1 => ?_⟩
  have R1 := R.same s1
  have elen : ((intsN fs).length : Int) = ((nfree c.B S.m : Nat) : Int) := by unfold intsN; rw [List.length_map, hlen]
  refine ⟨_, _, rfl, .inl (SqL.of hl1), _, rfl, _, _, _, rfl, R1.at_ 0 (by decide), ln_Store_reserve, c, S, rfl, R1, _, _, rfl, rfl, _, rfl, ?_⟩
  rw [elen, decide_eq_true (by omega)]
  exact iteT ⟨_, rfl, _, _, _, _, _, rfl, R1.at_ 0 (by decide), T.c_Store, T.nStore_terms, lk_Store_terms, _, _, _, _, _, rfl, R1.at_ 2 (by decide), T.c_Terms, T.nTerms_pages, lk_Terms_pages, k H1 s1⟩
theorem sc_Store_tally : FnScope ["self", "block"] ["self", "block"] (defScope sStore_tally) := ⟨rfl, rfl, rfl, by decide +kernel, rfl, by decide +kernel, by decide +kernel⟩
theorem ok_Store_tally (T : Txt K mg) : C8.Met P w K mg base 5 (He.ga K "Store") "tally" (spTally K) [] := by
  refine met T.c_Store T.mStore_tally T.dStore_tally (ps := ["self", "block"]) (fun _ _ _ _ _ _ us hl => match us, hl with | [_, _], _ => rfl) sc_Store_tally (fun vs H Q E h => by obtain ⟨_, _, _, rfl, _⟩ := h; rfl) (fun cdv A outer s H vs Q E hr h => ?_)
  obtain ⟨c, S, b, rfl, R, hb, k⟩ := h
  refine ⟨_, pss_one (ps_ret (pe_tup (pa_cons (pv 1) (pa_cons (pe_ix ix_list (pe_fld (pe_fld (pv 0) rfl) rfl) (pv 1) (fun _ _ => rfl)) (pa_cons (C8.pe_mt (ok_Chip_cleared T) hr (by decide) (pe_fld (pv 0) rfl) (pa_cons (pv 1) pa_nil)) (pa_cons (pe_ix ix_list (pe_fld (pe_fld (pv 0) rfl) rfl) (pv 1) (fun _ _ => rfl)) pa_nil)))))), ?_⟩
  refine ⟨_, rfl, _, rfl, _, _, _, _, _, rfl, R.at_ 0 (by decide), T.c_Store, T.nStore_book, lk_Store_book, _, _, _, _, _, rfl, R.at_ 3 (by decide), T.c_Book, T.nBook_live, lk_Book_live, _, rfl, _, _, _, _, rfl, rfl, SqL.of (R.at_ 14 (by decide)), atI_nat (mkL_get hb), _, rfl, _, _, _, _, _, rfl, R.at_ 0 (by decide), T.c_Store, T.nStore_chip, lk_Store_chip, _, _, _, rfl, R.at_ 1 (by decide), ln_Chip_cleared, _, rfl, c, S, b, rfl, R, hb, _, rfl, _, _, _, _, _, rfl, R.at_ 0 (by decide), T.c_Store, T.nStore_book, lk_Store_book, _, _, _, _, _, rfl, R.at_ 3 (by decide), T.c_Book, T.nBook_born, lk_Book_born, _, rfl, _, _, _, _, rfl, rfl, SqL.of (R.at_ 16 (by decide)), atI_nat (mkL_get hb), (by show 4 ≤ sizeLine; decide), fun t ht => ?_⟩
  exact k t _ (same_new ht) ht upd_same
theorem sc_Store_full_ones : FnScope ["self", "space", "found", "block"] ["self"] (defScope sStore_full_ones) := ⟨rfl, rfl, rfl, by decide +kernel, rfl, by decide +kernel, by decide +kernel⟩
theorem ok_Store_full_ones (T : Txt K mg) : C8.Met P w K mg base 8 (He.ga K "Store") "full_ones" (spFull K) [] := by
  refine met T.c_Store T.mStore_full_ones T.dStore_full_ones (ps := ["self"]) (fun _ _ _ _ _ _ us hl => match us, hl with | [_], _ => rfl) sc_Store_full_ones (fun vs H Q E h => by obtain ⟨_, _, rfl, _⟩ := h; rfl) (fun cdv A outer s H vs Q E hr h => ?_)
  obtain ⟨c, S, rfl, R, G, hf, k⟩ := h
  have hB2 := R.ok.B2
  refine ⟨_, pss_cons (ps_set (i := 1) sc_Store_full_ones.nd rfl (.inl rfl) (C8.pe_mt0 (ok_Store_space T) hr (by decide) (pv 0)))
    (pss_cons (ps_set (i := 2) sc_Store_full_ones.nd rfl (.inl rfl) (pe_lst pa_nil))
    (pss_cons (ps_for PassesOwn.never rfl (pi_list (C8.pe_mt0 (ok_Store_good T) hr (by decide) (pv 0))) (pg_name (i := 3) sc_Store_full_ones.nd rfl (Or.inl rfl))
      (pss_one (ps_if (PW.pt (pw_and (pt_cmpR op_eq (pe_ix ix_list (pe_fld (pe_fld (pv 0) rfl) rfl) (pv 3) (fun _ _ => rfl)) (pe_fld (pe_fld (pv 0) rfl) rfl) (nomark _)) (pw_and1 (pt_cmpR op_le (pe_ix ix_list (pe_fld (pe_fld (pv 0) rfl) rfl) (pv 3) (fun _ _ => rfl)) (pv 1) (nomark _)))))
        (pss_one (ps_expr (pe_bm PySem.F.plainAttrs_list PySem.F.slot_list_append PySem.F.type_list_append mt_append (pv 2) (pa_cons (C8.pe_mt (ok_Store_tally T) hr (by decide) (pv 0) (pa_cons (pv 3) pa_nil)) pa_nil)))) pss_nil)))
    (pss_one (ps_ret (pv 2))))), ?_⟩
  refine ⟨_, rfl, _, _, _, rfl, R.at_ 0 (by decide), ln_Store_space, c, S, rfl, R, hf, fun H1 s1 => ?_⟩
  have R1 := R.same s1
  refine ⟨Nat.zero_le _, fun l hl => ?_⟩
  have s2 : Same H (upd H1 l (.lst [])) := s1.trans (same_new hl)
  have R2 := R.same s2
  refine ⟨_, rfl, _, _, _, rfl, R2.at_ 0 (by decide), ln_Store_good, c, S, rfl, R2, fun g H3 s3 hg hg3 => ?_⟩
  have s23 := s2.trans s3
  have hgl : g ≠ l := fun e => by rw [e] at hg; rw [upd_same] at hg; cases hg
  refine ⟨g, rfl, ⟨_, SqL.of hg3⟩, for_list (K := K) (a := g) (xs := mkL c.B fun b => .int (b : Nat)) (fun i σ H5 => i ≤ c.B ∧ ∃ (y : Option V) (ts : List V), σ = [some (.ref (c.A 0)), some (.int c.P), some (.ref l), y] ∧ Same H H5 ∧ H5 g = some (.lst (mkL c.B fun b => .int (b : Nat))) ∧
      H5 l = some (.lst ts) ∧ Tals c S.m (c.P + 1) H5 ts ∧ ts.length ≤ i ∧ ∀ b, b < i → S.m.filled b = c.P → ∃ t, V.ref t ∈ ts ∧ H5 t = some (.tup [.int (b : Nat), .int (S.m.live b : Nat), .int (S.m.clr b : Nat), .int (S.m.born b)]))
    ⟨Nat.zero_le _, none, [], rfl, s23, hg3, s3 _ _ upd_same, ⟨fun x hx => by cases hx⟩, Nat.zero_le _, fun b hb => absurd hb (by omega)⟩ (fun i σ H5 _ ⟨_, _, _, _, _, e, _⟩ => SqL.of e) ?_ ?_⟩
  · rintro i y σ H5 hi0 ⟨hi2, v, ts, rfl, s5, hg5, hl5, hT, hlen, hall⟩
    obtain ⟨hi, rfl⟩ := mkL_mem hi0
    have R5 := R.same s5
    refine ⟨_, rfl, _, _, _, _, _, rfl, R5.at_ 0 (by decide), T.c_Store, T.nStore_book, lk_Store_book, _, _, _, _, _, rfl, R5.at_ 3 (by decide), T.c_Book, T.nBook_filled, lk_Book_filled, _, rfl, _, _, _, _, rfl, rfl, SqL.of (R5.at_ 15 (by decide)), atI_nat (mkL_get hi), _, rfl, _, _, _, _, _, rfl, R5.at_ 0 (by decide), T.c_Store, T.nStore_terms, lk_Store_terms, _, _, _, _, _, rfl, R5.at_ 2 (by decide), T.c_Terms, T.nTerms_pages, lk_Terms_pages, rfl, _, rfl, ite2 (fun h1 => ?_) (fun h1 => ?_)⟩
    · have h1 : S.m.filled i = c.P := by
        have e : ((S.m.filled i : Nat) : Int) = c.P := V.int.inj (of_decide_eq_true h1)
        omega
      have hlv := G.live_le hi
      refine ⟨_, rfl, _, _, _, _, _, rfl, R5.at_ 0 (by decide), T.c_Store, T.nStore_book, lk_Store_book, _, _, _, _, _, rfl, R5.at_ 3 (by decide), T.c_Book, T.nBook_live, lk_Book_live, _, rfl, _, _, _, _, rfl, rfl, SqL.of (R5.at_ 14 (by decide)), atI_nat (mkL_get hi), _, rfl, _, _, rfl, rfl, _, rfl, ?_⟩
      rw [decide_eq_true (by omega)]
      refine iteT ?_
      refine ⟨_, rfl, .inl ⟨rfl, _, SqL.of hl5⟩, _, rfl, _, _, _, rfl, R5.at_ 0 (by decide), ln_Store_tally, _, rfl, c, S, i, rfl, R5, hi, fun t H6 s6 ht ht6 => ?_⟩
      have hl6 := s6 _ _ hl5
      have hlt : t ≠ l := fun e => by rw [e, hl5] at ht; cases ht
      refine ⟨l, ts, _, rfl, rfl, hl6, Nat.lt_of_le_of_lt hlen (Nat.lt_of_le_of_lt hi2 (Nat.lt_of_le_of_lt hB2 (by decide))), ?_⟩
      have kp : ∀ q xs, H5 q = some (.tup xs) → (upd H6 l (.lst (ts ++ [.ref t]))) q = some (.tup xs) := fun q xs hq => by
        rw [upd_ne (ne_of hq hl5 (by intro z; cases z))]
        exact s6 _ _ hq
      refine ⟨hi, _, ts ++ [.ref t], rfl, fun b o e => ?_, ?_, upd_same, ⟨fun x hx => ?_⟩, by rw [List.length_append]; exact Nat.succ_le_succ hlen, fun b hb hfb => ?_⟩
      · rw [upd_ne (ne_of_none (s1 _ _ e) hl)]
        exact s6 _ _ (s5 _ _ e)
      · rw [upd_ne hgl]
        exact s6 _ _ hg5
      · rcases List.mem_append.mp hx with e | e
        · exact (hT.keep kp).at_ x e
        · rw [List.mem_singleton.mp e]
          exact ⟨t, i, rfl, hi, h1, by omega, by rw [upd_ne hlt]; exact ht6⟩
      · by_cases e : b = i
        · subst e
          exact ⟨t, List.mem_append.mpr (.inr (List.mem_singleton.mpr rfl)), by rw [upd_ne hlt]; exact ht6⟩
        · obtain ⟨t', h3, h4⟩ := hall b (by omega) hfb
          exact ⟨t', List.mem_append.mpr (.inl h3), kp _ _ h4⟩
    · have h1 : S.m.filled i ≠ c.P := fun z => h1 (decide_eq_true (by rw [z]))
      refine iteF ?_
      refine ⟨hi, _, ts, rfl, s5, hg5, hl5, hT, by omega, fun b hb hfb => ?_⟩
      by_cases e : b = i
      · subst e
        exact absurd hfb h1
      · exact hall b (by omega) hfb
  · rintro σ H5 ⟨_, v, ts, rfl, s5, hg5, hl5, hT, hlen, hall⟩
    rw [mkL_len] at hlen hall
    exact ⟨_, rfl, k ts l H5 hT hlen hall s5 (s1.free hl) hl5⟩
end
end Wp
namespace Wp
open PySem PySem.Spec PyProof.Rows L2
section
variable {P : Program} {w : World} {K : PySem.W.Frag} {mg : Str → Option Value} {base : Heap}
theorem sc_Store_options : FnScope ["self", "tally"] ["self"] (defScope sStore_options) := ⟨rfl, rfl, rfl, by decide +kernel, rfl, by decide +kernel, by decide +kernel⟩
theorem ok_Store_options (T : Txt K mg) : C8.Met P w K mg base 9 (He.ga K "Store") "options" (spOptions K) [] := by
  refine met T.c_Store T.mStore_options T.dStore_options (ps := ["self"]) (fun _ _ _ _ _ _ us hl => match us, hl with | [_], _ => rfl) sc_Store_options (fun vs H Q E h => by obtain ⟨_, _, rfl, _⟩ := h; rfl) (fun cdv A outer s H vs Q E hr h => ?_)
  obtain ⟨c, S, rfl, R, G, hf, ⟨bo, ho1, ho2, ho3⟩, k⟩ := h
  have hB2 := R.ok.B2
  refine ⟨_, pss_one (ps_ret (pe_lc (own := [("tally", 1)]) (g := gName 1) (tt := tTest (tOp (rI0 fun i j => V.bl (decide (i < j))) (tOp (rIxT K) (tVar 1) (tC (V.int 1))) (tFld K (tFld K (tVar 0) "terms") "pages"))) rfl sc_Store_options.nd (pi_list (C8.pe_mt0 (ok_Store_full_ones T) hr (by decide) (pv 0))) (blkOk_by (N := ["self", "tally"]) (sc := defScope sStore_options) (by decide +kernel))
    (fun _ _ _ _ _ => pg_name (i := 1) sc_Store_options.nd rfl (Or.inl rfl)) (fun _ _ _ _ _ => pts_one (pt_cmpR op_lt (pe_ix ix_tup (pv 1) pe_int (fun _ _ => rfl)) (pe_fld (pe_fld (pv 0) rfl) rfl) (nomark _))) (fun _ _ _ _ _ => pv 1))), ?_⟩
  refine ⟨_, rfl, _, _, _, rfl, R.at_ 0 (by decide), ln_Store_full_ones, c, S, rfl, R, G, hf, fun ts l H1 hT hlen hall s1 hl hl1 => ?_⟩
  refine ⟨l, rfl, ⟨_, SqL.of hl1⟩, fun D hD => ?_⟩
  have hlD : l ≠ D := ne_of_none hl1 hD
  refine lc_list (K := K) (a := l) (xs := ts) (fun i H5 => ∃ acc : List V, H5 D = some (.lst acc) ∧ acc.length ≤ i ∧ i ≤ ts.length ∧ (∀ b o, H1 b = some o → H5 b = some o) ∧ Tals c S.m c.P H5 acc ∧
      ∀ j t b, j < i → ts[j]? = some (V.ref t) → H1 t = some (.tup [.int (b : Nat), .int (S.m.live b : Nat), .int (S.m.clr b : Nat), .int (S.m.born b)]) → S.m.live b < c.P → acc ≠ [])
    ⟨[], upd_same, Nat.zero_le _, Nat.zero_le _, fun b o e => by rw [upd_ne (ne_of_none e hD)]; exact e, ⟨fun x hx => by cases hx⟩, fun j t b hj => absurd hj (by omega)⟩ (fun i H5 _ ⟨_, _, _, _, e, _⟩ => SqL.of (e _ _ hl1)) (fun i x H5 hi hI => ?_) (fun H5 hI => ?_)
  · obtain ⟨acc, h1, h2, h3, h4, h5, h6⟩ := hI
    have hx : x ∈ ts := List.mem_of_getElem? hi
    have hil : i < ts.length := (List.getElem?_eq_some_iff.mp hi).1
    obtain ⟨t, b, rfl, hb, hfb, hlb, ht⟩ := hT.at_ x hx
    have R5 : Rep K c S H5 := R.same (s1.trans h4)
    refine ⟨rfl, _, rfl, _, _, 1, _, rfl, rfl, SqT.of (h4 _ _ ht), atI_nat (j := 1) rfl, _, rfl, _, _, _, _, _, rfl, R5.at_ 0 (by decide), T.c_Store, T.nStore_terms, lk_Store_terms, _, _, _, _, _, rfl, R5.at_ 2 (by decide), T.c_Terms, T.nTerms_pages, lk_Terms_pages, _, _, rfl, rfl, _, rfl, ite2 (fun h7 => ?_) (fun h7 => ?_)⟩
    · have h7 := of_decide_eq_true h7
      refine ⟨_, rfl, acc, h1, Nat.lt_of_le_of_lt (Nat.le_trans h2 (Nat.le_trans h3 hlen)) (Nat.lt_of_le_of_lt hB2 (by decide)), acc ++ [.ref t], upd_same, by rw [List.length_append]; exact Nat.succ_le_succ h2, hil, fun z o e => ?_, ⟨fun y hy => ?_⟩, fun _ _ _ _ _ _ _ => by simp⟩
      · rw [upd_ne (ne_of_none e hD)]
        exact h4 z o e
      · have kp : ∀ q xs, H5 q = some (.tup xs) → (upd H5 D (.lst (acc ++ [.ref t]))) q = some (.tup xs) := fun q xs hq => by
          rw [upd_ne (ne_of hq h1 (by intro z; cases z))]
          exact hq
        rcases List.mem_append.mp hy with e | e
        · exact (h5.keep kp).at_ y e
        · rw [List.mem_singleton.mp e]
          exact ⟨t, b, rfl, hb, hfb, by omega, kp _ _ (h4 _ _ ht)⟩
    · have h7 : ¬ ((S.m.live b : Nat) : Int) < c.P := fun z => h7 (decide_eq_true z)
      refine ⟨acc, h1, by omega, hil, h4, h5, fun j t' b' hj hj2 ht' hlb' => ?_⟩
      by_cases e : j = i
      · subst e
        rw [hi] at hj2
        have et : t = t' := V.ref.inj (Option.some.inj hj2)
        subst et
        rw [ht] at ht'
        have e1 := HO.tup.inj (Option.some.inj ht')
        have e2 : ((b : Nat) : Int) = b' := V.int.inj (List.cons.inj e1).1
        have e3 : b = b' := by omega
        subst e3
        omega
      · exact h6 j t' b' (by omega) hj2 ht' hlb'
  · obtain ⟨acc, h1, h2, h3, h4, h5, h6⟩ := hI
    obtain ⟨t, hm, ht⟩ := hall bo ho1 ho2
    obtain ⟨j, hj, ej⟩ := List.mem_iff_getElem.mp hm
    refine k acc D H5 h5 (Nat.le_trans h2 hlen) (h6 j t bo hj (by rw [List.getElem?_eq_getElem hj, ej]) ht ho3) (fun b o e => h4 b o (s1 b o e)) (s1.free hD) h1
theorem sc_Store_choice : FnScope ["self", "some"] ["self"] (defScope sStore_choice) := ⟨rfl, rfl, rfl, by decide +kernel, rfl, by decide +kernel, by decide +kernel⟩
theorem ok_Store_choice (T : Txt K mg) : C8.Met P w K mg base 10 (He.ga K "Store") "choice" (spChoice K) [] := by
  refine met T.c_Store T.mStore_choice T.dStore_choice (ps := ["self"]) (fun _ _ _ _ _ _ us hl => match us, hl with | [_], _ => rfl) sc_Store_choice (fun vs H Q E h => by obtain ⟨_, _, rfl, _⟩ := h; rfl) (fun cdv A outer s H vs Q E hr h => ?_)
  obtain ⟨c, S, rfl, R, G, hf, hex, ⟨d, B, hd⟩, k⟩ := h
  have hP2 := R.ok.P2
  obtain ⟨C, eC, M⟩ : ∃ C, c.Cr = C ∧ C8.Met P w K mg base 2 C "choose" (spChoose C) [] := by
    rcases R.rl with e | e | e | e
    · exact ⟨_, e, ok_Rule_choose T⟩
    · exact ⟨_, e, ok_Fewest_choose T⟩
    · exact ⟨_, e, ok_Eldest_choose T⟩
    · exact ⟨_, e, ok_Worth_choose T⟩
  subst eC
  refine ⟨_, pss_cons (ps_set (i := 1) sc_Store_choice.nd rfl (.inl rfl) (C8.pe_mt0 (ok_Store_options T) hr (by decide) (pv 0)))
    (pss_cons (ps_if (pt_cmpR (op_eqNil hr.units) (pv 1) (pe_lst pa_nil) (nomark _)) pss_never pss_nil)
    (pss_one (ps_ret (pe_tup (pa_cons pe_str (pa_cons (C8.pe_mt M hr (by decide) (pe_fld (pv 0) rfl) (pa_cons (pv 1) (pa_cons (pe_fld (pe_fld (pv 0) rfl) rfl) (pa_cons (pe_fld (pe_fld (pv 0) rfl) rfl) pa_nil)))) pa_nil)))))), ?_⟩
  refine ⟨_, rfl, _, _, _, rfl, R.at_ 0 (by decide), ln_Store_options, c, S, rfl, R, G, hf, hex, fun ts l H1 hT hlen hne s1 hl hl1 => ?_⟩
  refine ⟨_, rfl, Nat.zero_le _, fun e he => ?_⟩
  have s2 : Same H1 (upd H1 e (.lst [])) := same_new he
  have R2 := R.same (s1.trans s2)
  have hfl : Flat K (upd H1 e (.lst [])) ts := flat_tups ts fun x hx => by
    obtain ⟨t, b, e1, _, _, _, e5⟩ := hT.at_ x hx
    exact ⟨t, [(b : Nat), (S.m.live b : Nat), (S.m.clr b : Nat), S.m.born b], e1, s2 _ _ e5⟩
  refine ⟨_, _, _, rfl, rfl, SqL.of (s2 _ _ hl1), hfl, SqL.of upd_same, _, rfl, ?_⟩
  have hie : ts.isEmpty = false := by
    cases ts with
    | nil => exact absurd rfl hne
    | cons a r => rfl
  rw [hie]
  refine iteF ?_
  refine ⟨_, rfl, _, _, _, _, _, rfl, R2.at_ 0 (by decide), T.c_Store, T.nStore_rule, lk_Store_rule, _, _, _, rfl, R2.at_ 4 (by decide), rfl, _, rfl, _, rfl, _, _, _, _, _, rfl, R2.at_ 0 (by decide), T.c_Store, T.nStore_terms, lk_Store_terms, _, _, _, _, _, rfl, R2.at_ 2 (by decide), T.c_Terms, T.nTerms_pages, lk_Terms_pages, _, rfl, _, _, _, _, _, rfl, R2.at_ 0 (by decide), T.c_Store, T.nStore_book, lk_Store_book, _, _, _, _, _, rfl, R2.at_ 3 (by decide), T.c_Book, T.nBook_stamp, lk_Book_stamp, c.A 4, _, l, ts, c.P, S.m.stamp, rfl, R2.at_ 4 (by decide), s2 _ _ hl1, hne, fun x hx => ?_, by omega, ?_, fun t b lv cl bo H3 hm ht s3 => ?_⟩
  · obtain ⟨t, b, e1, hb, _, h4, e5⟩ := hT.at_ x hx
    have h6 := B.born b
    exact ⟨t, b, _, _, _, e1, ⟨s2 _ _ e5, by omega, by omega⟩⟩
  · have h1 := B.st0
    have h2 := B.st1
    omega
  · obtain ⟨t', b', e1, hb, hfb, hlb, e5⟩ := hT.at_ _ hm
    have et : t = t' := V.ref.inj e1
    subst et
    have e6 := (s2 _ _ e5).symm.trans ht.at_
    have e7 := HO.tup.inj (Option.some.inj e6)
    have e8 : ((b' : Nat) : Int) = b := V.int.inj (List.cons.inj e7).1
    have e9 : b' = b := by omega
    subst e9
    have s4 := s1.trans (s2.trans s3)
    exact ⟨by show 2 ≤ sizeLine; decide, fun q hq => k q b' _ hb hfb hlb (s4.trans (same_new hq)) (s4.free hq) upd_same⟩
end
end Wp
namespace Wp
open PySem PySem.Spec PyProof.Rows L2
theorem put_born {P : Nat} {S : MS} (b n t : Nat) (z : Int) (h : S.filled b < P) (x : Nat) : (put P S b n t z).born x = S.born x ∨ (put P S b n t z).born x = S.stamp := by
  rw [put_eq2 b n t z h]
  show (if (forget P S n).filled b = 0 then up (forget P S n).born b (forget P S n).stamp else (forget P S n).born) x = S.born x ∨ (if (forget P S n).filled b = 0 then up (forget P S n).born b (forget P S n).stamp else (forget P S n).born) x = S.stamp
  rw [forget_born, forget_stamp]
  split
  · by_cases e : x = b
    · rw [e, up_same]
      exact .inr rfl
    · rw [up_ne e]
      exact .inl rfl
  · exact .inl rfl
theorem Bud.put {c : Cf} {S : WS} {d : Nat} (B : Bud S d) {b n t : Nat} {z : Int} {kvs : List (Key × V)} {x : V} (h : S.m.filled b < c.P) : Bud (wput c S b n t z kvs x) (d + 1) := by
  have h0 := B.st0
  have h1 := B.st1
  refine ⟨?_, Nat.le_succ_of_le B.pap, ?_, ?_, fun y => ?_, fun y => ?_⟩
  · show (S.log ++ [x]).length ≤ d + 1
    rw [List.length_append]
    exact Nat.succ_le_succ B.log
  · show 0 ≤ (Wp.put c.P S.m b n t z).stamp
    rw [put_stamp b n t z h]
    omega
  · show (Wp.put c.P S.m b n t z).stamp ≤ _
    rw [put_stamp b n t z h]
    omega
  · show (Wp.put c.P S.m b n t z).clr y ≤ _
    rw [put_clr b n t z h]
    exact Nat.le_succ_of_le (B.clr y)
  · have h2 := B.born y
    show 0 ≤ (Wp.put c.P S.m b n t z).born y ∧ (Wp.put c.P S.m b n t z).born y ≤ _
    rcases put_born b n t z h y with e | e
    · rw [e]
      omega
    · rw [e]
      omega
/-- i pages of block v are moved -/
structure Mv (c : Cf) (d v : Nat) (L : List (Nat × Nat)) (S0 S : WS) (i : Nat) : Prop where
  good : Good c.B c.P S.m
  con : ∀ n, n < 64 → content S.m n = content S0.m n
  hold : ∀ n, (S.m.whr n).isSome = (S0.m.whr n).isSome
  left : ∀ j p n, i ≤ j → L[j]? = some (p, n) → S.m.names p = some n
  gone : ∀ j p n, j < i → L[j]? = some (p, n) → S.m.names p = none
  rest : ∀ k, k < c.P → S0.m.names (v * c.P + k) = none → S.m.names (v * c.P + k) = none
  fv : S.m.filled v = c.P
  np0 : i = 0 → (∀ b, b < c.B → ¬ isPart c.P S.m b) ∧ nfree c.B S.m = nfree c.B S0.m
  np1 : 0 < i → (∃ b, b < c.B ∧ b ≠ v ∧ S.m.filled b = i) ∧ nfree c.B S.m + 1 = nfree c.B S0.m
  pap : S.papers = S0.papers
  bud : Bud S (d + i)
theorem Mv.step {c : Cf} {d v : Nat} {S0 S : WS} {i p n b t : Nat} {z : Int} {kvs : List (Key × V)} {x : V} (M : Mv c d v (lp c.P v S0.m.names c.P) S0 S i) (hv : v < c.B) (hl : (lp c.P v S0.m.names c.P).length < c.P)
    (hi : (lp c.P v S0.m.names c.P)[i]? = some (p, n)) (sp : Spot c.B c.P S.m b) (hz : n ≠ 64 → ∃ t, S.m.stuff p = some (t, z)) : Mv c d v (lp c.P v S0.m.names c.P) S0 (wput c S b n t z kvs x) (i + 1) := by
  have G := M.good
  have hil : i < (lp c.P v S0.m.names c.P).length := (List.getElem?_eq_some_iff.mp hi).1
  have hnp := M.left i p n (Nat.le_refl _) hi
  obtain ⟨k, hk, ep, _⟩ := lp_mem.mp (List.mem_of_getElem? hi)
  have hpl : p < c.B * c.P := by rw [ep]; exact pg_lt hv hk
  obtain ⟨hn, hw⟩ := G.nm p n hpl hnp
  have hbv : b ≠ v := fun e => by
    have h1 := sp.room
    have h2 := M.fv
    rw [e] at h1
    omega
  have hsp : ∀ {q j m : Nat}, (lp c.P v S0.m.names c.P)[j]? = some (q, m) → q ≠ b * c.P + S.m.filled b ∧ q < c.B * c.P := fun {q j m} h => by
    obtain ⟨k', hk', ep', _⟩ := lp_mem.mp (List.mem_of_getElem? h)
    refine ⟨fun e => ?_, by rw [ep']; exact pg_lt hv hk'⟩
    rw [ep'] at e
    exact hbv (pg_inj hk' sp.room e).1.symm
  have hone : ∀ e, e < c.B → 0 < S.m.filled e → S.m.filled e < c.P → e = b := fun e he h1 h2 => sp.only e he ⟨h1, h2⟩
  refine ⟨put_good G t z sp.lt sp.room hn hone, fun m hm => ?_, fun m => ?_, fun j q m hj hq => ?_, fun j q m hj hq => ?_, fun k' hk' h0 => ?_, ?_, fun h => absurd h (by omega), fun _ => ?_, M.pap, M.bud.put sp.room⟩
  · show content (put c.P S.m b n t z) m = _
    rw [content_put G t z sp.lt sp.room]
    by_cases e : m = n
    · rw [if_pos e, ← M.con m hm, e]
      obtain ⟨t', ht'⟩ := hz (by omega)
      obtain ⟨t2, z2, e1, e2⟩ := content_some G hw
      rw [ht'] at e1
      cases e1
      exact e2.symm
    · rw [if_neg e]
      exact M.con m hm
  · show ((put c.P S.m b n t z).whr m).isSome = _
    rw [put_whr b n t z sp.room]
    by_cases e : m = n
    · rw [if_pos e, ← M.hold m, e, hw]
      rfl
    · rw [if_neg e]
      exact M.hold m
  · show (put c.P S.m b n t z).names q = some m
    have hqm := M.left j q m (by omega) hq
    obtain ⟨h1, h2⟩ := hsp hq
    rw [put_names G b n t z sp.room q h2, if_neg h1, if_neg, hqm]
    intro e
    have h3 := (G.nm q n h2 e).2
    rw [hw] at h3
    have h4 : p = q := Option.some.inj h3
    have h5 := lp_nodup (P := c.P) (b := v) (names := S0.m.names) c.P
    have h6 : i = j := nd_ix h5 (x := p) (by rw [List.getElem?_map, hi]; rfl) (by rw [List.getElem?_map, hq, h4]; rfl)
    omega
  · show (put c.P S.m b n t z).names q = none
    obtain ⟨h1, h2⟩ := hsp hq
    rw [put_names G b n t z sp.room q h2, if_neg h1]
    by_cases e : j = i
    · subst e
      rw [hi] at hq
      cases hq
      rw [if_pos hnp]
    · rw [M.gone j q m (by omega) hq]
      rfl
  · show (put c.P S.m b n t z).names (v * c.P + k') = none
    rw [put_names G b n t z sp.room _ (pg_lt hv hk'), if_neg (fun e => hbv (pg_inj hk' sp.room e).1.symm), M.rest k' hk' h0]
    rfl
  · show (put c.P S.m b n t z).filled v = c.P
    rw [put_filled b n t z sp.room, up_ne hbv.symm]
    exact M.fv
  · show (∃ e, e < c.B ∧ e ≠ v ∧ (put c.P S.m b n t z).filled e = i + 1) ∧ nfree c.B (put c.P S.m b n t z) + 1 = nfree c.B S0.m
    by_cases h0 : i = 0
    · obtain ⟨h1, h2⟩ := M.np0 h0
      have h3 : S.m.filled b = 0 := Classical.byContradiction fun q => h1 b sp.lt ⟨by omega, sp.room⟩
      refine ⟨⟨b, sp.lt, hbv, ?_⟩, ?_⟩
      · rw [put_filled b n t z sp.room, up_same, h3, h0]
      · rw [nfree_put0 sp.lt sp.room h3, h2]
    · obtain ⟨⟨e, h1, h2, h3⟩, h4⟩ := M.np1 (by omega)
      have h5 : e = b := sp.only e h1 ⟨by omega, by omega⟩
      subst h5
      refine ⟨⟨e, sp.lt, hbv, ?_⟩, ?_⟩
      · rw [put_filled e n t z sp.room, up_same, h3]
      · rw [nfree_put1 sp.room (by omega), h4]
theorem Mv.clear {c : Cf} {d v : Nat} {S0 S : WS} (M : Mv c d v (lp c.P v S0.m.names c.P) S0 S (lp c.P v S0.m.names c.P).length) : ∀ k, k < c.P → S.m.names (v * c.P + k) = none := by
  intro k hk
  cases e : S0.m.names (v * c.P + k) with
  | none => exact M.rest k hk e
  | some n =>
    have hm : (v * c.P + k, n) ∈ lp c.P v S0.m.names c.P := lp_mem.mpr ⟨k, hk, rfl, e⟩
    obtain ⟨j, hj, ej⟩ := List.mem_iff_getElem.mp hm
    exact M.gone j _ n hj (by rw [List.getElem?_eq_getElem hj, ej])
theorem Rep.loc {K : PySem.W.Frag} {c : Cf} {S : WS} {H : Hp} (R : Rep K c S H) {f : Addr} {xs : List V} {o : HO} (hf : ∀ i, i < 17 → f ≠ c.A i) (hl : H f = some (.lst xs)) : Rep K c S (L2.upd H f o) := by
  refine ⟨R.ok, fun i hi => ?_, fun p t z hp h => ?_, R.dic, R.rl⟩
  · rw [upd_ne (fun e => hf i hi e.symm)]
    exact R.at_ i hi
  · obtain ⟨k, e⟩ := R.tup p t z hp h
    exact ⟨k, by rw [upd_ne (ne_of e hl (by intro z; cases z))]; exact e⟩
def spMoved (K : PySem.W.Frag) : Sp := fun vs H Q _ => ∃ (c : Cf) (S : WS) (v d : Nat), vs = [.ref (c.A 0), .int v] ∧ Rep K c S H ∧ Good c.B c.P S.m ∧ v < c.B ∧ S.m.filled v = c.P ∧ S.m.live v < c.P ∧ (∀ b, b < c.B → ¬ isPart c.P S.m b) ∧ 0 < nfree c.B S.m ∧ Bud S d ∧ d ≤ 50000 ∧
  ∀ S1 l fl H', Rep K c S1 H' → Mv c d v (lp c.P v S.m.names c.P) S S1 (lp c.P v S.m.names c.P).length → Fr c H H' → H l = none → H' l = some (.lst fl) → Q (.ref l) H'
def spWiped (K : PySem.W.Frag) : Sp := fun vs H Q _ => ∃ (c : Cf) (S : WS) (v : Nat), vs = [.ref (c.A 0), .int v] ∧ Rep K c S H ∧ v < c.B ∧ S.m.clr v ≤ 100000 ∧ S.log.length ≤ 100000 ∧
  ∀ x H', Rep K c { S with m := wipeM c.P S.m v, log := S.log ++ [x] } H' → Fr c H H' → Q (.bl true) H'
section
variable {P : Program} {w : World} {K : PySem.W.Frag} {mg : Str → Option Value} {base : Heap}
theorem sc_Store_wiped : FnScope ["self", "block"] ["self", "block"] (defScope sStore_wiped) := ⟨rfl, rfl, rfl, by decide +kernel, rfl, by decide +kernel, by decide +kernel⟩
theorem ok_Store_wiped (T : Txt K mg) : C8.Met P w K mg base 6 (He.ga K "Store") "wiped" (spWiped K) [] := by
  refine met T.c_Store T.mStore_wiped T.dStore_wiped (ps := ["self", "block"]) (fun _ _ _ _ _ _ us hl => match us, hl with | [_, _], _ => rfl) sc_Store_wiped (fun vs H Q E h => by obtain ⟨_, _, _, rfl, _⟩ := h; rfl) (fun cdv A outer s H vs Q E hr h => ?_)
  obtain ⟨c, S, v, rfl, R, hv, h1, h2, k⟩ := h
  refine ⟨_, pss_cons (ps_expr (C8.pe_mt (ok_Chip_wipe T) hr (by decide) (pe_fld (pv 0) rfl) (pa_cons (pv 1) pa_nil)))
    (pss_cons (ps_expr (C8.pe_mt (ok_Book_emptied T) hr (by decide) (pe_fld (pv 0) rfl) (pa_cons (pv 1) pa_nil))) (pss_one (ps_ret pe_bl))), ?_⟩
  refine ⟨_, rfl, _, _, _, _, _, rfl, R.at_ 0 (by decide), T.c_Store, T.nStore_chip, lk_Store_chip, _, _, _, rfl, R.at_ 1 (by decide), ln_Chip_wipe, _, rfl, c, S, v, rfl, R, hv, h1, h2, fun x H1 R1 F1 => ?_⟩
  refine ⟨_, rfl, _, _, _, _, _, rfl, R1.at_ 0 (by decide), T.c_Store, T.nStore_book, lk_Store_book, _, _, _, rfl, R1.at_ 3 (by decide), ln_Book_emptied, _, rfl, c, _, v, rfl, R1, hv, fun H2 R2 F2 => ?_⟩
  exact k x H2 R2 (Fr.trans F1 F2)
theorem sc_Store_moved : FnScope ["self", "block", "found", "page", "name"] ["self", "block"] (defScope sStore_moved) := ⟨rfl, rfl, rfl, by decide +kernel, rfl, by decide +kernel, by decide +kernel⟩
theorem ok_Store_moved (T : Txt K mg) : C8.Met P w K mg base 10 (He.ga K "Store") "moved" (spMoved K) [] := by
  refine met T.c_Store T.mStore_moved T.dStore_moved (ps := ["self", "block"]) (fun _ _ _ _ _ _ us hl => match us, hl with | [_, _], _ => rfl) sc_Store_moved (fun vs H Q E h => by obtain ⟨_, _, _, _, rfl, _⟩ := h; rfl) (fun cdv A outer s H vs Q E hr h => ?_)
  obtain ⟨c, S, v, d, rfl, R, G, hv, hfv, hlv, hnp, hnf, B, hd, k⟩ := h
  have hP2 := R.ok.P2
  have hLl : (lp c.P v S.m.names c.P).length = S.m.live v := by rw [lp_len, G.lv v hv]
  refine ⟨_, pss_cons (ps_set (i := 2) sc_Store_moved.nd rfl (.inl rfl) (pe_lst pa_nil))
    (pss_cons (ps_for PassesOwn.never rfl (pi_list (C8.pe_mt (ok_Book_live_pages T) hr (by decide) (pe_fld (pv 0) rfl) (pa_cons (pv 1) pa_nil))) (pg_tup rfl (pgs_cons (pg_name (i := 3) sc_Store_moved.nd rfl (Or.inl rfl)) (pgs_cons (pg_name (i := 4) sc_Store_moved.nd rfl (Or.inl rfl)) pgs_nil)))
      (pss_one (ps_expr (pe_bm PySem.F.plainAttrs_list PySem.F.slot_list_append PySem.F.type_list_append mt_append (pv 2) (pa_cons (pe_tup (pa_cons (pv 4) (pa_cons (pv 3) (pa_cons (C8.pe_mt (ok_Store_lay T) hr (by decide) (pv 0) (pa_cons (pv 4) (pa_cons (C8.pe_mt (ok_Store_value_for T) hr (by decide) (pv 0) (pa_cons (pv 3) (pa_cons (pv 4) pa_nil))) pa_nil))) pa_nil)))) pa_nil)))))
    (pss_one (ps_ret (pv 2)))), ?_⟩
  refine ⟨Nat.zero_le _, fun f hf => ?_⟩
  have s1 : Same H (upd H f (.lst [])) := same_new hf
  have R1 := R.same s1
  refine ⟨_, rfl, _, _, _, _, _, rfl, R1.at_ 0 (by decide), T.c_Store, T.nStore_book, lk_Store_book, _, _, _, rfl, R1.at_ 3 (by decide), ln_Book_live_pages, _, rfl, c, S, v, rfl, R1, hv, fun ts g H2 hT s2 hg hg2 => ?_⟩
  have s12 := s1.trans s2
  have R2 := R.same s12
  have hf2 : H2 f = some (.lst []) := s2 _ _ upd_same
  have hfA := R.new hf
  have hgA := R1.new hg
  have hgf : g ≠ f := fun e => by rw [e] at hg; rw [upd_same] at hg; cases hg
  refine ⟨g, rfl, ⟨_, SqL.of hg2⟩, for_list (K := K) (a := g) (xs := ts) (fun i σ H5 => i ≤ ts.length ∧ ∃ (S1 : WS) (y3 y4 : Option V) (fl : List V), σ = [some (.ref (c.A 0)), some (.int v), some (.ref f), y3, y4] ∧ Rep K c S1 H5 ∧ Mv c d v (lp c.P v S.m.names c.P) S S1 i ∧ Fr c H H5 ∧
      H5 f = some (.lst fl) ∧ fl.length ≤ i ∧ H5 g = some (.lst ts) ∧ TupL H5 ts (lp c.P v S.m.names c.P))
    ⟨Nat.zero_le _, S, none, none, [], rfl, R2, ⟨G, fun _ _ => rfl, fun _ => rfl, fun j p n _ hj => ?_, fun j p n hj => absurd hj (by omega), fun _ _ h => h, hfv, fun _ => ⟨hnp, rfl⟩, fun h => absurd h (by omega), rfl, B⟩, Fr.same s12, hf2, Nat.zero_le _, hg2, hT⟩ (fun i σ H5 _ ⟨_, _, _, _, _, _, _, _, _, _, _, e, _⟩ => SqL.of e) ?_ ?_⟩
  · obtain ⟨_, _, _, e⟩ := lp_mem.mp (List.mem_of_getElem? hj)
    exact e
  · rintro i x σ H5 hi ⟨hi2, S1, y3, y4, fl, rfl, R5, M, F5, hf5, hfl, hg5, hT5⟩
    have hil : i < ts.length := (List.getElem?_eq_some_iff.mp hi).1
    have hiP : i < S.m.live v := by rw [← hLl, ← hT5.len]; exact hil
    obtain ⟨t, p, n, rfl, hLi, ht⟩ := hT5.at_ i x hi
    have hnp5 := M.left i p n (Nat.le_refl _) hLi
    obtain ⟨kk, hk, ep, _⟩ := lp_mem.mp (List.mem_of_getElem? hLi)
    have hpl : p < c.B * c.P := by rw [ep]; exact pg_lt hv hk
    obtain ⟨hn, hw⟩ := M.good.nm p n hpl hnp5
    obtain ⟨t0, z0, hz0, _⟩ := content_some M.good hw
    refine ⟨t, _, rfl, SqT.of ht, rfl, _, _, rfl, _, _, rfl, rfl, ?_⟩
    refine ⟨_, rfl, .inl ⟨rfl, _, SqL.of hf5⟩, _, rfl, _, rfl, _, rfl, _, _, _, rfl, R5.at_ 0 (by decide), ln_Store_lay, _, rfl, _, rfl, _, _, _, rfl, R5.at_ 0 (by decide), ln_Store_value_for, _, rfl, _, rfl, c, S1, p, n, rfl, R5, M.good, hpl, by rw [hz0]; rfl, fun z H6 hz s6 => ?_⟩
    have R6 := R5.same s6
    have hcan : canPut c.B c.P S1.m := by
      by_cases h0 : i = 0
      · exact .inr (by rw [(M.np0 h0).2]; exact hnf)
      · obtain ⟨⟨b, h1, _, h3⟩, _⟩ := M.np1 (by omega)
        exact .inl ⟨b, h1, by omega, by omega⟩
    refine ⟨c, S1, n, z, rfl, R6, M.good, hcan, hn, ⟨d + i, M.bud, by omega⟩, fun b t2 kvs x2 H7 hsp R7 F7 => ?_⟩
    refine ⟨(by show 3 ≤ sizeLine; decide), fun q hq => ?_⟩
    have F57 : Fr c H5 H7 := Fr.trans (Fr.same s6) F7
    have hf7 : H7 f = some (.lst fl) := F57 f _ hf5 hfA
    have hg7 : H7 g = some (.lst ts) := F57 g _ hg5 hgA
    have hfq : f ≠ q := ne_of_none hf7 hq
    refine ⟨f, fl, _, rfl, rfl, (by rw [upd_ne hfq]; exact hf7), ?_, ?_⟩
    · exact Nat.lt_of_le_of_lt hfl (Nat.lt_of_lt_of_le hiP (Nat.le_trans (Nat.le_of_lt hlv) (Nat.le_trans hP2 (by decide))))
    · have R8 := R7.same (same_new (o := .tup [.int (n : Nat), .int (p : Nat), .int (b * c.P + S1.m.filled b : Nat)]) hq)
      have hl8 : (upd H7 q (.tup [.int (n : Nat), .int (p : Nat), .int (b * c.P + S1.m.filled b : Nat)])) f = some (.lst fl) := by
        rw [upd_ne hfq]
        exact hf7
      refine ⟨hil, wput c S1 b n t2 z kvs x2, _, _, fl ++ [.ref q], rfl, R8.loc hfA hl8, M.step hv (by rw [hLl]; exact hlv) hLi hsp hz, fun y o hy hA => ?_, upd_same, by rw [List.length_append]; exact Nat.succ_le_succ hfl, ?_, hT5.keep fun t' xs ht' => ?_⟩
      · have h8 := F57 y o (F5 y o hy hA) hA
        rw [upd_ne (ne_of_none hy hf), upd_ne (ne_of_none h8 hq)]
        exact h8
      · rw [upd_ne hgf, upd_ne (ne_of_none hg7 hq)]
        exact hg7
      · have h8 := F57.tup R5 ht'
        rw [upd_ne (ne_of ht' hf5 (by intro z; cases z)), upd_ne (ne_of_none h8 hq)]
        exact h8
  · rintro σ H5 ⟨_, S1, y3, y4, fl, rfl, R5, M, F5, hf5, hfl, hg5, hT5⟩
    rw [hT5.len] at M
    exact ⟨_, rfl, k S1 f fl H5 R5 M F5 hf hf5⟩
end
end Wp
namespace Wp
open PySem PySem.Spec PyProof.Rows L2
theorem Bud.mono {S : WS} {d e : Nat} (B : Bud S d) (h : d ≤ e) : Bud S e :=
  ⟨Nat.le_trans B.log h, Nat.le_trans B.pap h, B.st0, by have := B.st1; omega, fun b => Nat.le_trans (B.clr b) h, fun b => by have := B.born b; omega⟩
/-- behind a making of room, or behind none -/
structure Rd (c : Cf) (S0 S : WS) (d : Nat) : Prop where
  good : Good c.B c.P S.m
  con : ∀ n, n < 64 → content S.m n = content S0.m n
  hold : ∀ n, (S.m.whr n).isSome = (S0.m.whr n).isSome
  rdy : rdy c S.m
  nf : 1 + c.ill ≤ nfree c.B S.m
  pap : S.papers.length ≤ S0.papers.length + 1
  bud : Bud S (d + 20)
theorem Rd.of {c : Cf} {d v : Nat} {S S1 : WS} {x y : V} (ok : CfOk c) (G : Good c.B c.P S.m) (hv : v < c.B) (hlv : S.m.live v < c.P) (hnf : nfree c.B S.m = 1 + c.ill) (M : Mv c d v (lp c.P v S.m.names c.P) S S1 (lp c.P v S.m.names c.P).length) :
    Rd c S { S1 with m := wipeM c.P S1.m v, log := S1.log ++ [x], papers := S1.papers ++ [y] } d := by
  have hP1 := ok.P1
  have hP2 := ok.P2
  have hLl : (lp c.P v S.m.names c.P).length = S.m.live v := by rw [lp_len, G.lv v hv]
  have cl := M.clear
  have M2 := M
  rw [hLl] at M2
  have nw : nfree c.B (wipeM c.P S1.m v) = nfree c.B S1.m + 1 := nfree_wipe hv (by rw [M.fv]; omega)
  have B := M2.bud
  have key : (Wp.rdy c (wipeM c.P S1.m v)) ∧ 1 + c.ill ≤ nfree c.B (wipeM c.P S1.m v) := by
    by_cases h0 : S.m.live v = 0
    · have h1 := (M2.np0 h0).2
      exact ⟨.inr (by omega), by omega⟩
    · obtain ⟨⟨b, h1, h2, h3⟩, h4⟩ := M2.np1 (by omega)
      refine ⟨.inl ⟨⟨b, h1, ?_⟩, by omega⟩, by omega⟩
      have e : (wipeM c.P S1.m v).filled b = S1.m.filled b := by
        show up S1.m.filled v 0 b = _
        rw [up_ne h2]
      unfold isPart
      rw [e, h3]
      omega
  refine ⟨wipe_good M.good hv cl, fun n hn => ?_, fun n => M.hold n, key.1, key.2, ?_, ?_⟩
  · show content (wipeM c.P S1.m v) n = _
    rw [content_wipe M.good cl]
    exact M.con n hn
  · show (S1.papers ++ [y]).length ≤ _
    rw [List.length_append, M.pap]
    exact Nat.le_refl _
  · have hl : S.m.live v ≤ 16 := by omega
    refine ⟨?_, ?_, B.st0, ?_, fun b => ?_, fun b => ?_⟩
    · show (S1.log ++ [x]).length ≤ _
      have := B.log
      rw [List.length_append, List.length_singleton]
      omega
    · show (S1.papers ++ [y]).length ≤ _
      have := B.pap
      rw [List.length_append, List.length_singleton]
      omega
    · have := B.st1
      show S1.m.stamp ≤ _
      omega
    · show up S1.m.clr v (S1.m.clr v + 1) b ≤ _
      have h1 := B.clr v
      have h2 := B.clr b
      by_cases e : b = v
      · rw [e, up_same]
        omega
      · rw [up_ne e]
        omega
    · show 0 ≤ up S1.m.born v 0 b ∧ up S1.m.born v 0 b ≤ _
      have h2 := B.born b
      by_cases e : b = v
      · rw [e, up_same]
        omega
      · rw [up_ne e]
        omega
def spMakeRoom (K : PySem.W.Frag) : Sp := fun vs H Q _ => ∃ (c : Cf) (S : WS) (d : Nat), vs = [.ref (c.A 0)] ∧ Rep K c S H ∧ Good c.B c.P S.m ∧ (∀ b, b < c.B → ¬ isPart c.P S.m b) ∧ nfree c.B S.m = 1 + c.ill ∧ (∃ b, b < c.B ∧ S.m.filled b = c.P ∧ S.m.live b < c.P) ∧ Bud S d ∧ d ≤ 50000 ∧
  ∀ S' v H', Rep K c S' H' → Rd c S S' d → Fr c H H' → Q v H'
def spMakeReady (K : PySem.W.Frag) : Sp := fun vs H Q _ => ∃ (c : Cf) (S : WS) (d : Nat), vs = [.ref (c.A 0)] ∧ Rep K c S H ∧ Good c.B c.P S.m ∧ 1 + c.ill ≤ nfree c.B S.m ∧ nname S.m ≤ c.share + 1 ∧ Bud S d ∧ d ≤ 50000 ∧
  ∀ S' H', Rep K c S' H' → Rd c S S' d → Fr c H H' → Q .non H'
section
variable {P : Program} {w : World} {K : PySem.W.Frag} {mg : Str → Option Value} {base : Heap}
theorem sc_Store_make_room : FnScope ["self", "some", "why", "block", "moves", "well"] ["self"] (defScope sStore_make_room) := ⟨rfl, rfl, rfl, by decide +kernel, rfl, by decide +kernel, by decide +kernel⟩
theorem ok_Store_make_room (T : Txt K mg) : C8.Met P w K mg base 11 (He.ga K "Store") "make_room" (spMakeRoom K) [] := by
  refine met T.c_Store T.mStore_make_room T.dStore_make_room (ps := ["self"]) (fun _ _ _ _ _ _ us hl => match us, hl with | [_], _ => rfl) sc_Store_make_room (fun vs H Q E h => by obtain ⟨_, _, _, rfl, _⟩ := h; rfl) (fun cdv A outer s H vs Q E hr h => ?_)
  obtain ⟨c, S, d, rfl, R, G, hnp, hnf, hex, B, hd, k⟩ := h
  refine ⟨_, pss_cons (ps_set (i := 1) sc_Store_make_room.nd rfl (.inl rfl) (C8.pe_mt0 (ok_Store_options T) hr (by decide) (pv 0)))
    (pss_cons (ps_asg (C8.pe_mt0 (ok_Store_choice T) hr (by decide) (pv 0)) (pg_tup rfl (pgs_cons (pg_name (i := 2) sc_Store_make_room.nd rfl (Or.inl rfl)) (pgs_cons (pg_name (i := 3) sc_Store_make_room.nd rfl (Or.inl rfl)) pgs_nil))))
    (pss_cons (ps_set (i := 4) sc_Store_make_room.nd rfl (.inl rfl) (C8.pe_mt (ok_Store_moved T) hr (by decide) (pv 0) (pa_cons (pv 3) pa_nil)))
    (pss_cons (ps_set (i := 5) sc_Store_make_room.nd rfl (.inl rfl) (C8.pe_mt (ok_Store_wiped T) hr (by decide) (pv 0) (pa_cons (pv 3) pa_nil)))
    (pss_cons (ps_expr (pe_bm PySem.F.plainAttrs_list PySem.F.slot_list_append PySem.F.type_list_append mt_append (pe_fld (pv 0) rfl) (pa_cons (pe_tup (pa_cons (pv 2) (pa_cons (pv 1) (pa_cons (pv 3) (pa_cons (pv 4) (pa_cons (pv 5) pa_nil)))))) pa_nil)))
    (pss_one (ps_ret (pe_tup (pa_cons (pv 2) (pa_cons (pe_callTy call_list_of (by rfl) T.z_list (by decide +kernel) (pa_cons (pv 1) pa_nil)) (pa_cons (pv 3) (pa_cons (pe_callTy call_list_of (by rfl) T.z_list (by decide +kernel) (pa_cons (pv 4) pa_nil)) (pa_cons (pv 5) pa_nil)))))))))))), ?_⟩
  refine ⟨_, rfl, _, _, _, rfl, R.at_ 0 (by decide), ln_Store_options, c, S, rfl, R, G, by omega, hex, fun ts l H1 hT hlen hne s1 hl hl1 => ?_⟩
  have R1 := R.same s1
  refine ⟨_, rfl, _, _, _, rfl, R1.at_ 0 (by decide), ln_Store_choice, c, S, rfl, R1, G, by omega, hex, ⟨d, B, by omega⟩, fun t v H2 hv hfv hlv s2 ht ht2 => ?_⟩
  have R2 := R1.same s2
  refine ⟨t, _, rfl, SqT.of ht2, rfl, _, _, rfl, _, _, rfl, rfl, ?_⟩
  refine ⟨_, rfl, _, _, _, rfl, R2.at_ 0 (by decide), ln_Store_moved, _, rfl, c, S, v, d, rfl, R2, G, hv, hfv, hlv, hnp, by omega, B, hd, fun S1 f fl H3 R3 M F3 hf hf3 => ?_⟩
  have hLl : (lp c.P v S.m.names c.P).length = S.m.live v := by rw [lp_len, G.lv v hv]
  have hP2 := R.ok.P2
  have B1 := M.bud
  have h1 := B1.log
  have h2 := B1.clr v
  have h3 := B1.pap
  refine ⟨_, rfl, _, _, _, rfl, R3.at_ 0 (by decide), ln_Store_wiped, _, rfl, c, S1, v, rfl, R3, hv, by omega, by omega, fun x H4 R4 F4 => ?_⟩
  refine ⟨_, rfl, _, _, _, _, _, rfl, R4.at_ 0 (by decide), T.c_Store, T.nStore_papers, lk_Store_papers, .inl ⟨rfl, _, SqL.of (R4.at_ 5 (by decide))⟩, _, rfl, _, rfl, _, rfl, _, rfl, _, rfl, (by show 5 ≤ sizeLine; decide), fun q hq => ?_⟩
  have s4 : Same H4 (upd H4 q (.tup [.str "rule", .ref l, .int v, .ref f, .bl true])) := same_new hq
  have R5 := R4.same s4
  refine ⟨_, _, _, rfl, rfl, R5.at_ 5 (by decide), Nat.lt_of_le_of_lt (show S1.papers.length ≤ 100000 by omega) (by decide), ?_⟩
  have R6 := R5.papers (S1.papers ++ [.ref q])
  have F6 : Fr c H4 _ := Fr.trans (Fr.same s4) (Fr.upd (i := 5) (o := .lst (S1.papers ++ [.ref q])) (by decide))
  have F26 : Fr c H2 _ := Fr.trans F3 (Fr.trans F4 F6)
  have hl6 := F26 l _ (s2 _ _ hl1) (R.new hl)
  have hf6 := (Fr.trans F4 F6) f _ hf3 (R2.new hf)
  refine ⟨_, rfl, _, rfl, l, ts, rfl, .inl (SqL.of hl6), fun l2 hl2 => ?_⟩
  have s7 : Same _ (upd _ l2 (.lst ts)) := same_new hl2
  refine ⟨_, rfl, _, rfl, f, fl, rfl, .inl (SqL.of (s7 _ _ hf6)), fun f2 hf2 => ?_⟩
  have s8 : Same _ (upd _ f2 (.lst fl)) := same_new hf2
  refine ⟨_, rfl, (by show 5 ≤ sizeLine; decide), fun q2 hq2 => ?_⟩
  have s9 : Same _ (upd _ q2 (.tup [.str "rule", .ref l2, .int v, .ref f2, .bl true])) := same_new hq2
  have s79 := s7.trans (s8.trans s9)
  exact k _ _ _ (R6.same s79) (Rd.of R.ok G hv hlv hnf M) (Fr.trans (Fr.same (s1.trans s2)) (Fr.trans F26 (Fr.same s79)))
theorem sc_Store_make_ready : FnScope ["self"] ["self"] (defScope sStore_make_ready) := ⟨rfl, rfl, rfl, by decide +kernel, rfl, by decide +kernel, by decide +kernel⟩
theorem ok_Store_make_ready (T : Txt K mg) : C8.Met P w K mg base 12 (He.ga K "Store") "make_ready" (spMakeReady K) [] := by
  refine met T.c_Store T.mStore_make_ready T.dStore_make_ready (ps := ["self"]) (fun _ _ _ _ _ _ us hl => match us, hl with | [_], _ => rfl) sc_Store_make_ready (fun vs H Q E h => by obtain ⟨_, _, _, rfl, _⟩ := h; rfl) (fun cdv A outer s H vs Q E hr h => ?_)
  obtain ⟨c, S, d, rfl, R, G, hnf, hnm, B, hd, k⟩ := h
  refine ⟨_, pss_one (ps_while PassesOwn.never (pt_not (pt_val (C8.pe_mt0 (ok_Store_ready T) hr (by decide) (pv 0)))) (pss_one (ps_expr (C8.pe_mt0 (ok_Store_make_room T) hr (by decide) (pv 0))))), ?_⟩
  refine ⟨fun m σ H5 => σ = [some (.ref (c.A 0))] ∧ ((m = 1 ∧ Rep K c S H5 ∧ Same H H5) ∨ (m = 0 ∧ ∃ S', Rep K c S' H5 ∧ Rd c S S' d ∧ Fr c H H5)), ⟨1, rfl, .inl ⟨rfl, R, Same.refl H⟩⟩, ?_⟩
  rintro m σ H5 ⟨rfl, ⟨rfl, R5, s5⟩ | ⟨rfl, S', R5, D, F5⟩⟩
  · refine ⟨_, rfl, _, _, _, rfl, R5.at_ 0 (by decide), ln_Store_ready, c, S, rfl, R5, fun kk H6 hk s6 => ⟨kk, rfl, ?_⟩⟩
    have R6 := R5.same s6
    cases kk with
    | true =>
      have hrd := hk.mp rfl
      exact iteF (k S H6 R6 ⟨G, fun _ _ => rfl, fun _ => rfl, hrd, hnf, by omega, B.mono (by omega)⟩ (Fr.same (s5.trans s6)))
    | false =>
      have hnr : ¬ rdy c S.m := fun z => by have := hk.mpr z; cases this
      have hnp : ∀ b, b < c.B → ¬ isPart c.P S.m b := fun b hb hp => hnr (.inl ⟨⟨b, hb, hp⟩, hnf⟩)
      have hnf2 : nfree c.B S.m = 1 + c.ill := by
        have : ¬ (1 + c.ill < nfree c.B S.m) := fun z => hnr (.inr z)
        omega
      have hex : ∃ b, b < c.B ∧ S.m.filled b = c.P ∧ S.m.live b < c.P := by
        refine some_option G hnp ?_
        have h1 := R.ok.sh
        have h2 := R.ok.il
        have h3 : c.B * c.P = (c.B - 1 - c.ill) * c.P + (1 + c.ill) * c.P := by
          rw [← Nat.add_mul]
          congr 1
          omega
        rw [hnf2, h3, ← h1]
        omega
      refine iteT ⟨fun σ' H' => σ' = [some (.ref (c.A 0))] ∧ ∃ S', Rep K c S' H' ∧ Rd c S S' d ∧ Fr c H H', fun σ' H' ⟨e, S', h1, h2, h3⟩ => ⟨0, by omega, e, .inr ⟨rfl, S', h1, h2, h3⟩⟩, ?_⟩
      exact ⟨_, rfl, _, _, _, rfl, R6.at_ 0 (by decide), ln_Store_make_room, c, S, d, rfl, R6, G, hnp, hnf2, hex, B, hd, fun S' v H7 R7 D F7 => ⟨rfl, S', R7, D, Fr.trans (Fr.same (s5.trans s6)) F7⟩⟩
  · refine ⟨_, rfl, _, _, _, rfl, R5.at_ 0 (by decide), ln_Store_ready, c, S', rfl, R5, fun kk H6 hk s6 => ⟨kk, rfl, ?_⟩⟩
    have : kk = true := hk.mpr D.rdy
    subst this
    exact iteF (k S' H6 (R5.same s6) D (Fr.trans F5 (Fr.same s6)))
end
end Wp
namespace Wp
open PySem PySem.Spec PyProof.Rows L2
def nheld (m : MS) : Nat := cnt 64 fun n => (m.whr n).isSome
theorem nname_le (m : MS) : nname m ≤ nheld m + 1 := by
  show cnt 64 _ + _ ≤ cnt 64 _ + 1
  split <;> omega
/-- behind an ask that put value z for sheet n, or gave sheet n up (z = none) -/
structure Done (c : Cf) (S0 S : WS) (n : Nat) (z : Option Int) (d : Nat) : Prop where
  good : Good c.B c.P S.m
  con : ∀ m, m < 64 → content S.m m = if m = n then z else content S0.m m
  hold : ∀ m, m < 64 → (S.m.whr m).isSome = if m = n then z.isSome else (S0.m.whr m).isSome
  nf : 1 + c.ill ≤ nfree c.B S.m
  pap : S.papers.length ≤ S0.papers.length + 1
  bud : Bud S (d + 21)
/-- the page of an ask, put on a store made ready -/
theorem Rd.put {c : Cf} {S0 S : WS} {d : Nat} (D : Rd c S0 S d) {b n t : Nat} {z : Int} {kvs : List (Key × V)} {x : V} (hn : n < 65) (sp : Spot c.B c.P S.m b) :
    Good c.B c.P (wput c S b n t z kvs x).m ∧ 1 + c.ill ≤ nfree c.B (wput c S b n t z kvs x).m := by
  have hone : ∀ e, e < c.B → 0 < S.m.filled e → S.m.filled e < c.P → e = b := fun e he h1 h2 => sp.only e he ⟨h1, h2⟩
  refine ⟨put_good D.good t z sp.lt sp.room hn hone, ?_⟩
  show 1 + c.ill ≤ nfree c.B (Wp.put c.P S.m b n t z)
  have h1 := D.nf
  by_cases h0 : S.m.filled b = 0
  · have h2 := nfree_put0 (n := n) (t := t) (z := z) sp.lt sp.room h0
    rcases D.rdy with ⟨⟨e, he, hp⟩, _⟩ | h3
    · have := sp.only e he hp
      subst this
      have := hp.1
      omega
    · omega
  · rw [nfree_put1 sp.room h0]
    exact h1
theorem Rd.can {c : Cf} {S0 S : WS} {d : Nat} (D : Rd c S0 S d) : canPut c.B c.P S.m := by
  rcases D.rdy with ⟨h, _⟩ | h
  · exact .inl h
  · exact .inr (by omega)
theorem Rd.done {c : Cf} {S0 S : WS} {d : Nat} (D : Rd c S0 S d) {b n t : Nat} {z : Int} {kvs : List (Key × V)} {x : V} (hn : n < 64) (sp : Spot c.B c.P S.m b) : Done c S0 (wput c S b n t z kvs x) n (some z) d := by
  obtain ⟨h1, h2⟩ := D.put (t := t) (z := z) (kvs := kvs) (x := x) (show n < 65 by omega) sp
  refine ⟨h1, fun m hm => ?_, fun m hm => ?_, h2, D.pap, D.bud.put sp.room⟩
  · show content (Wp.put c.P S.m b n t z) m = _
    rw [content_put D.good t z sp.lt sp.room, D.con m hm]
  · show ((Wp.put c.P S.m b n t z).whr m).isSome = _
    rw [put_whr b n t z sp.room, ← D.hold m]
    split <;> rfl
theorem Rd.given {c : Cf} {S0 S : WS} {d : Nat} (D : Rd c S0 S d) {b n t : Nat} {z : Int} {kvs kvs' : List (Key × V)} {x : V} (hn : n < 64) (sp : Spot c.B c.P S.m b) :
    Done c S0 { wput c S b 64 t z kvs x with m := forget c.P (wput c S b 64 t z kvs x).m n, kvs := kvs' } n none d := by
  obtain ⟨h1, h2⟩ := D.put (n := 64) (t := t) (z := z) (kvs := kvs) (x := x) (by omega) sp
  have B := D.bud.put (n := 64) (t := t) (z := z) (kvs := kvs) (x := x) sp.room
  refine ⟨forget_good h1 n, fun m hm => ?_, fun m hm => ?_, ?_, D.pap, ⟨B.log, B.pap, ?_, ?_, ?_, ?_⟩⟩
  · show content (forget c.P (Wp.put c.P S.m b 64 t z) n) m = _
    rw [content_forget, content_put D.good t z sp.lt sp.room, if_neg (show ¬ m = 64 by omega), D.con m hm]
  · show ((forget c.P (Wp.put c.P S.m b 64 t z) n).whr m).isSome = _
    rw [forget_whr, put_whr b 64 t z sp.room, if_neg (show ¬ m = 64 by omega), ← D.hold m]
    split <;> rfl
  · show 1 + c.ill ≤ cnt c.B fun e => (forget c.P (Wp.put c.P S.m b 64 t z) n).filled e == 0
    rw [forget_filled]
    exact h2
  · show 0 ≤ (forget c.P (Wp.put c.P S.m b 64 t z) n).stamp
    rw [forget_stamp]
    exact B.st0
  · show (forget c.P (Wp.put c.P S.m b 64 t z) n).stamp ≤ _
    rw [forget_stamp]
    exact B.st1
  · intro e
    show (forget c.P (Wp.put c.P S.m b 64 t z) n).clr e ≤ _
    rw [forget_clr]
    exact B.clr e
  · intro e
    show 0 ≤ (forget c.P (Wp.put c.P S.m b 64 t z) n).born e ∧ (forget c.P (Wp.put c.P S.m b 64 t z) n).born e ≤ _
    rw [forget_born]
    exact B.born e
theorem filter_one : ∀ {hs : List Nat} {n : Nat}, hs.Nodup → n ∈ hs → hs.filter (fun m => decide (m = n)) = [n]
  | a :: r, n, h, hm => by
    obtain ⟨h1, h2⟩ := List.nodup_cons.mp h
    by_cases e : a = n
    · subst e
      rw [List.filter_cons, if_pos (decide_eq_true rfl)]
      congr 1
      refine List.filter_eq_nil_iff.mpr fun x hx => ?_
      intro z
      rw [of_decide_eq_true z] at hx
      exact h1 hx
    · rw [List.filter_cons, if_neg (by simpa using e)]
      exact filter_one h2 ((List.mem_cons.mp hm).resolve_left fun z => e z.symm)
def optZ : Option Int → V
  | none => .non
  | some z => .int z
/-- what every ask finds -/
structure Fit (c : Cf) (S : WS) (d : Nat) : Prop where
  good : Good c.B c.P S.m
  nf : 1 + c.ill ≤ nfree c.B S.m
  nh : nheld S.m ≤ c.share
  bud : Bud S d
  lim : d ≤ 50000
def spWrite (K : PySem.W.Frag) : Sp := fun vs H Q _ => ∃ (c : Cf) (S : WS) (n : Nat) (z : Int) (d : Nat), vs = [.ref (c.A 0), .int n, .int z] ∧ Rep K c S H ∧ Fit c S d ∧ n < 64 ∧ 0 ≤ z ∧ z < 1000000000000000000000000000000 ∧ ((S.m.whr n).isSome = true ∨ nheld S.m < c.share) ∧
  ∀ S' v H', Rep K c S' H' → Done c S S' n (some z) d → Fr c H H' → Q v H'
def spGive (K : PySem.W.Frag) : Sp := fun vs H Q _ => ∃ (c : Cf) (S : WS) (n : Nat) (a : Addr) (d : Nat), vs = [.ref (c.A 0), .ref a] ∧ Rep K c S H ∧ H a = some (.lst [.int (n : Nat)]) ∧ Fit c S d ∧ n < 64 ∧ (S.m.whr n).isSome = true ∧
  ∀ S' H', Rep K c S' H' → Done c S S' n none d → Fr c H H' → Q (.int 1) H'
def spReadS (K : PySem.W.Frag) : Sp := fun vs H Q _ => ∃ (c : Cf) (S : WS) (n : Nat), vs = [.ref (c.A 0), .int n] ∧ Rep K c S H ∧ Good c.B c.P S.m ∧ n < 64 ∧ Q (optZ (content S.m n)) H
section
variable {P : Program} {w : World} {K : PySem.W.Frag} {mg : Str → Option Value} {base : Heap}
theorem sc_Store_write : FnScope ["self", "sheet", "value"] ["self", "sheet", "value"] (defScope sPlain_write) := ⟨rfl, rfl, rfl, by decide +kernel, rfl, by decide +kernel, by decide +kernel⟩
theorem ok_Store_write (T : Txt K mg) : C8.Met P w K mg base 13 (He.ga K "Store") "write" (spWrite K) [] := by
  refine met T.c_Store T.mStore_write T.dStore_write (ps := ["self", "sheet", "value"]) (fun _ _ _ _ _ _ us hl => match us, hl with | [_, _, _], _ => rfl) sc_Store_write (fun vs H Q E h => by obtain ⟨_, _, _, _, _, rfl, _⟩ := h; rfl) (fun cdv A outer s H vs Q E hr h => ?_)
  obtain ⟨c, S, n, z, d, rfl, R, F, hn, hz0, hz1, hok, k⟩ := h
  have G := F.good
  refine ⟨_, pss_cons (ps_expr (C8.pe_mt (ok_Store_need_sheet T) hr (by decide) (pv 0) (pa_cons (pv 1) pa_nil)))
    (pss_cons (ps_if (pt_not (pt_val (C8.pe_c (ok_is_within T) hr (by decide) rfl (pa_cons (pv 2) (pa_cons pe_int (pa_cons (pe_op op_sub (pe_op op_pow pe_int pe_int) pe_int) pa_nil)))))) pss_never pss_nil)
    (pss_cons (ps_if (PW.pt (pw_and (pt_cmp (pc_dnotin (hu_of hr) (pv 1) (pe_fld (pe_fld (pv 0) rfl) rfl))) (pw_and1 (pt_cmpR op_ge (pe_callB call_len_seq (by rfl) T.z_len PySem.boot_len (pa_cons (C8.pe_mt0 (ok_Store_held T) hr (by decide) (pv 0)) pa_nil)) (pe_fld (pe_fld (pv 0) rfl) rfl) (nomark _))))) pss_never pss_nil)
    (pss_cons (ps_expr (C8.pe_mt0 (ok_Store_make_ready T) hr (by decide) (pv 0)))
    (pss_one (ps_ret (C8.pe_mt (ok_Store_lay T) hr (by decide) (pv 0) (pa_cons (pv 1) (pa_cons (pv 2) pa_nil)))))))), ?_⟩
  refine ⟨_, rfl, _, _, _, rfl, R.at_ 0 (by decide), ln_Store_need_sheet, _, rfl, c, S, n, rfl, R, hn, ?_⟩
  refine ⟨_, rfl, _, _, rfl, rfl, ⟨by decide, by decide, by decide⟩, _, _, rfl, rfl, _, _, _, rfl, fun b hb => ?_⟩
  have e30 : (10 : Int) ^ (30 : Int).toNat = 1000000000000000000000000000000 := by decide
  have : b = true := hb.mpr ⟨hz0, by rw [e30]; omega⟩
  subst this
  refine ⟨true, rfl, iteF ?_⟩
  have fin : ∀ H1, Same H H1 → tSeq (tDrop (tMeth (He.ga K "Store") "make_ready" (spMakeReady K) [] C8.E0 (tVar 0) tNil)) (tRet (tMeth (He.ga K "Store") "lay" (spLay K) [] C8.E0 (tVar 0) (tCons (tVar 1) (tCons (tVar 2) tNil)))) { nx := fun _ H' => Q .non H', rt := Q } [some (.ref (c.A 0)), some (.int (n : Nat)), some (.int z)] H1 := fun H1 s1 => by
    have R1 := R.same s1
    refine ⟨_, rfl, _, _, _, rfl, R1.at_ 0 (by decide), ln_Store_make_ready, c, S, d, rfl, R1, G, F.nf, ?_, F.bud, F.lim, fun S1 H2 R2 D F2 => ?_⟩
    · have := nname_le S.m
      have := F.nh
      omega
    · have hl := F.lim
      refine ⟨_, rfl, _, _, _, rfl, R2.at_ 0 (by decide), ln_Store_lay, _, rfl, _, rfl, c, S1, n, z, rfl, R2, D.good, D.can, by omega, ⟨d + 20, D.bud, by omega⟩, fun b t kvs x H3 sp R3 F3 => ?_⟩
      exact k _ _ H3 R3 (D.done hn sp) (Fr.trans (Fr.same s1) (Fr.trans F2 F3))
  refine ⟨_, rfl, _, rfl, _, _, _, _, _, rfl, R.at_ 0 (by decide), T.c_Store, T.nStore_book, lk_Store_book, _, _, _, _, _, rfl, R.at_ 3 (by decide), T.c_Book, T.nBook_where, lk_Book_where, _, _, rfl, DGet.k (k := Sum.inl (n : Int)) (R.at_ 12 (by decide)), _, rfl, ?_⟩
  cases e : S.m.whr n with
  | some q =>
    rw [R.dic.fr n q e]
    exact iteF (fin H (Same.refl H))
  | none =>
    rw [R.dic.none_of e]
    refine iteT ?_
    refine ⟨_, rfl, _, _, _, rfl, R.at_ 0 (by decide), ln_Store_held, c, S, rfl, R, G.w65, fun hs l H1 hnd hm s1 hl hl1 => ?_⟩
    have R1 := R.same s1
    have hlen : hs.length = nheld S.m := by
      rw [nodup_cnt hs 64 hnd fun x hx => ((hm x).mp hx).1]
      refine cnt_congr fun i hi => ?_
      cases e2 : (S.m.whr i).isSome with
      | true => exact decide_eq_true ((hm i).mpr ⟨hi, e2⟩)
      | false => exact decide_eq_false fun z => by rw [((hm i).mp z).2] at e2; cases e2
    have hlt : nheld S.m < c.share := hok.resolve_left (by rw [e]; simp)
    refine ⟨_, _, rfl, .inl (SqL.of hl1), _, rfl, _, _, _, _, _, rfl, R1.at_ 0 (by decide), T.c_Store, T.nStore_terms, lk_Store_terms, _, _, _, _, _, rfl, R1.at_ 2 (by decide), T.c_Terms, T.nTerms_share, lk_Terms_share, _, _, rfl, rfl, _, rfl, ?_⟩
    have el : ((intsN hs).length : Int) = ((nheld S.m : Nat) : Int) := by unfold intsN; rw [List.length_map, hlen]
    rw [el, decide_eq_false (by omega)]
    exact iteF (fin H1 s1)
theorem sc_Store_read : FnScope ["self", "sheet"] ["self", "sheet"] (defScope sPlain_read) := ⟨rfl, rfl, rfl, by decide +kernel, rfl, by decide +kernel, by decide +kernel⟩
theorem ok_Store_read (T : Txt K mg) : C8.Met P w K mg base 5 (He.ga K "Store") "read" (spReadS K) [] := by
  refine met T.c_Store T.mStore_read T.dStore_read (ps := ["self", "sheet"]) (fun _ _ _ _ _ _ us hl => match us, hl with | [_, _], _ => rfl) sc_Store_read (fun vs H Q E h => by obtain ⟨_, _, _, rfl, _⟩ := h; rfl) (fun cdv A outer s H vs Q E hr h => ?_)
  obtain ⟨c, S, n, rfl, R, G, hn, k⟩ := h
  refine ⟨_, pss_cons (ps_expr (C8.pe_mt (ok_Store_need_sheet T) hr (by decide) (pv 0) (pa_cons (pv 1) pa_nil)))
    (pss_cons (ps_if (pt_cmp (pc_dnotin (hu_of hr) (pv 1) (pe_fld (pe_fld (pv 0) rfl) rfl))) (pss_one (ps_ret pe_non)) pss_nil)
    (pss_one (ps_ret (pe_ix ix_tup (C8.pe_mt (ok_Chip_read T) hr (by decide) (pe_fld (pv 0) rfl) (pa_cons (pe_dget (hu_of hr) (pe_fld (pe_fld (pv 0) rfl) rfl) (pv 1) (fun _ _ => rfl)) pa_nil)) pe_int (fun _ _ => rfl))))), ?_⟩
  refine ⟨_, rfl, _, _, _, rfl, R.at_ 0 (by decide), ln_Store_need_sheet, _, rfl, c, S, n, rfl, R, hn, ?_⟩
  refine ⟨_, rfl, _, rfl, _, _, _, _, _, rfl, R.at_ 0 (by decide), T.c_Store, T.nStore_book, lk_Store_book, _, _, _, _, _, rfl, R.at_ 3 (by decide), T.c_Book, T.nBook_where, lk_Book_where, _, _, rfl, DGet.k (k := Sum.inl (n : Int)) (R.at_ 12 (by decide)), _, rfl, ?_⟩
  cases e : S.m.whr n with
  | none =>
    rw [R.dic.none_of e]
    rw [content_none e] at k
    exact iteT k
  | some p =>
    have hv := R.dic.fr n p e
    obtain ⟨t, z, h1, h2⟩ := content_some G e
    obtain ⟨_, hp, _⟩ := G.wh n p e
    obtain ⟨kk, ht⟩ := R.tup p t z hp h1
    rw [h2] at k
    rw [hv]
    refine iteF ?_
    refine ⟨_, rfl, _, _, _, _, _, rfl, R.at_ 0 (by decide), T.c_Store, T.nStore_chip, lk_Store_chip, _, _, _, rfl, R.at_ 1 (by decide), ln_Chip_read, _, rfl, _, _, _, _, _, rfl, R.at_ 0 (by decide), T.c_Store, T.nStore_book, lk_Store_book, _, _, _, _, _, rfl, R.at_ 3 (by decide), T.c_Book, T.nBook_where, lk_Book_where, _, rfl, _, _, rfl, (by rw [← hv]; exact DGet.k (k := Sum.inl (n : Int)) (R.at_ 12 (by decide))), c, S, p, rfl, R, hp, ?_⟩
    rw [h1]
    exact ⟨_, _, 1, _, rfl, rfl, SqT.of ht, atI_nat (j := 1) rfl, k⟩
end
end Wp
namespace Wp
open PySem PySem.Spec PyProof.Rows L2
theorem inV_one (m n : Nat) : inV (.int (m : Nat)) [V.int (n : Nat)] = decide (m = n) := by
  show (((n : Int) == (m : Int)) || false) = decide (m = n)
  rw [Bool.or_false]
  by_cases e : m = n
  · rw [e]
    simp
  · rw [decide_eq_false e]
    refine beq_eq_false_iff_ne.mpr fun z => e ?_
    omega
theorem intsN_get {hs : List Nat} {i : Nat} {x : V} (h : (intsN hs)[i]? = some x) : ∃ m, hs[i]? = some m ∧ x = .int (m : Nat) := by
  unfold intsN at h
  rw [List.getElem?_map] at h
  cases e : hs[i]? with
  | none =>
    rw [e] at h
    cases h
  | some m =>
    rw [e] at h
    exact ⟨m, rfl, (Option.some.inj h).symm⟩
theorem take_snoc {hs : List Nat} {i m : Nat} (h : hs[i]? = some m) : hs.take (i + 1) = hs.take i ++ [m] := by
  rw [List.take_add_one, h]
  rfl
section
variable {P : Program} {w : World} {K : PySem.W.Frag} {mg : Str → Option Value} {base : Heap}
theorem sc_Store_give_up : FnScope ["self", "sheets", "sheet", "gone"] ["self", "sheets"] (defScope sPlain_give_up) := ⟨rfl, rfl, rfl, by decide +kernel, rfl, by decide +kernel, by decide +kernel⟩
theorem ok_Store_give_up (T : Txt K mg) : C8.Met P w K mg base 13 (He.ga K "Store") "give_up" (spGive K) [] := by
  refine met T.c_Store T.mStore_give_up T.dStore_give_up (ps := ["self", "sheets"]) (fun _ _ _ _ _ _ us hl => match us, hl with | [_, _], _ => rfl) sc_Store_give_up (fun vs H Q E h => by obtain ⟨_, _, _, _, _, rfl, _⟩ := h; rfl) (fun cdv A outer s H vs Q E hr h => ?_)
  obtain ⟨c, S, n, a, d, rfl, R, ha, F, hn, hwn, k⟩ := h
  have G := F.good
  obtain ⟨tR, hR⟩ := T.i_ROLL
  refine ⟨_, pss_cons (ps_for PassesOwn.never rfl (pi_list (pv 1)) (pg_name (i := 2) sc_Store_give_up.nd rfl (Or.inl rfl)) (pss_one (ps_expr (C8.pe_mt (ok_Store_need_sheet T) hr (by decide) (pv 0) (pa_cons (pv 2) pa_nil)))))
    (pss_cons (ps_set (i := 3) sc_Store_give_up.nd rfl (.inr rfl) (pe_lc (own := [("sheet", 2)]) (g := gName 2) (tt := tTest (tOp (rIn K false) (tVar 2) (tVar 1))) rfl sc_Store_give_up.nd (pi_list (C8.pe_mt0 (ok_Store_held T) hr (by decide) (pv 0))) (blkOk_by (N := ["self", "sheets", "sheet", "gone"]) (sc := defScope sPlain_give_up) (by decide +kernel))
      (fun _ _ _ _ _ => pg_name (i := 2) sc_Store_give_up.nd rfl (Or.inl rfl)) (fun _ _ _ _ _ => pts_one (pt_cmpR op_in_seq (pv 2) (pv 1) (by rfl))) (fun _ _ _ _ _ => pv 2)))
    (pss_cons (ps_if (pt_cmpR (op_neNil hr.units) (pv 3) (pe_lst pa_nil) (nomark _))
      (pss_cons (ps_expr (C8.pe_mt0 (ok_Store_make_ready T) hr (by decide) (pv 0)))
      (pss_cons (ps_expr (C8.pe_mt (ok_Store_lay T) hr (by decide) (pv 0) (pa_cons (C8.pe_gc (v := .int 64) rfl ⟨_, hR, _, rfl⟩) (pa_cons (C8.pe_c (ok_bits_of T) hr (by decide) rfl (pa_cons
          (pe_lc (own := [("sheet", 2)]) (g := gName 2) (tt := tTest (tOp (rIn K true) (tVar 2) (tVar 3))) rfl sc_Store_give_up.nd (pi_list (C8.pe_mt0 (ok_Store_held T) hr (by decide) (pv 0))) (blkOk_by (N := ["self", "sheets", "sheet", "gone"]) (sc := defScope sPlain_give_up) (by decide +kernel))
            (fun _ _ _ _ _ => pg_name (i := 2) sc_Store_give_up.nd rfl (Or.inl rfl)) (fun _ _ _ _ _ => pts_one (pt_cmpR op_notIn_seq (pv 2) (pv 3) (by rfl))) (fun _ _ _ _ _ => pv 2)) pa_nil)) pa_nil))))
      (pss_one (ps_for PassesOwn.never rfl (pi_list (pv 3)) (pg_name (i := 2) sc_Store_give_up.nd rfl (Or.inl rfl)) (pss_one (ps_expr (C8.pe_mt (ok_Book_forget T) hr (by decide) (pe_fld (pv 0) rfl) (pa_cons (pv 2) pa_nil)))))))) pss_nil)
    (pss_one (ps_ret (pe_callB call_len_seq (by rfl) T.z_len PySem.boot_len (pa_cons (pv 3) pa_nil)))))), ?_⟩
  -- each is a sheet
  refine ⟨_, rfl, a, rfl, ⟨_, SqL.of ha⟩, for_list (K := K) (a := a) (xs := [.int (n : Nat)]) (fun i σ H5 => ∃ y : Option V, σ = [some (.ref (c.A 0)), some (.ref a), y, none] ∧ H5 = H) ⟨none, rfl, rfl⟩ (fun i σ H5 _ ⟨_, _, e⟩ => by rw [e]; exact SqL.of ha) ?_ ?_⟩
  · rintro i x σ H5 hi ⟨y, rfl, rfl⟩
    have ex : x = .int (n : Nat) := by
      cases i with
      | zero => exact (Option.some.inj hi).symm
      | succ i => cases hi
    subst ex
    exact ⟨_, rfl, _, _, _, rfl, R.at_ 0 (by decide), ln_Store_need_sheet, _, rfl, c, S, n, rfl, R, hn, _, rfl, rfl⟩
  · rintro σ H5 ⟨y, rfl, rfl⟩
    -- gone
    refine ⟨_, rfl, _, _, _, rfl, R.at_ 0 (by decide), ln_Store_held, c, S, rfl, R, G.w65, fun hs l H1 hnd hm s1 hl hl1 => ?_⟩
    refine ⟨l, rfl, ⟨_, SqL.of hl1⟩, fun D hD => ?_⟩
    have hlD : l ≠ D := ne_of_none hl1 hD
    have haD : a ≠ D := ne_of_none (s1 _ _ ha) hD
    refine lc_list (K := K) (a := l) (xs := intsN hs) (fun i H6 => ∃ acc : List Nat, H6 D = some (.lst (intsN acc)) ∧ acc = (hs.take i).filter (fun m => decide (m = n)) ∧ i ≤ 64 ∧ ∀ b o, H1 b = some o → H6 b = some o)
      ⟨[], upd_same, rfl, by omega, fun b o e => by rw [upd_ne (ne_of_none e hD)]; exact e⟩ (fun i H6 _ ⟨_, _, _, _, e⟩ => SqL.of (e _ _ hl1)) (fun i x H6 hi hI => ?_) (fun H6 hI => ?_)
    · obtain ⟨acc, h1, h2, h3, h4⟩ := hI
      obtain ⟨m, hmi, rfl⟩ := intsN_get hi
      have hlen : hs.length ≤ 64 := by
        rw [nodup_cnt hs 64 hnd fun x hx => ((hm x).mp hx).1]
        exact cnt_le
      have hil : i < hs.length := (List.getElem?_eq_some_iff.mp hmi).1
      refine ⟨rfl, _, rfl, _, rfl, a, _, rfl, .inl (SqL.of (h4 _ _ (s1 _ _ ha))), rfl, rfl, _, rfl, ?_⟩
      show if inV (.int (m : Nat)) [V.int (n : Nat)] = true then _ else _
      rw [inV_one]
      refine ite2 (fun he => ?_) (fun he => ?_)
      · have he := of_decide_eq_true he
        refine ⟨_, rfl, _, h1, ?_, acc ++ [m], ?_, ?_, by omega, fun b o e => by rw [upd_ne (ne_of_none e hD)]; exact h4 b o e⟩
        · unfold intsN
          rw [List.length_map, h2]
          refine Nat.lt_of_le_of_lt (List.length_filter_le _ _) (Nat.lt_of_le_of_lt (show _ ≤ 64 from ?_) (by decide))
          rw [List.length_take]
          omega
        · rw [upd_same]
          unfold intsN
          rw [List.map_append]
          rfl
        · rw [take_snoc hmi, List.filter_append, ← h2]
          congr 1
          rw [List.filter_cons, if_pos (decide_eq_true he)]
          rfl
      · have he : ¬ m = n := fun z => he (decide_eq_true z)
        refine ⟨acc, h1, ?_, by omega, h4⟩
        rw [take_snoc hmi, List.filter_append, ← h2, List.filter_cons, if_neg (by simpa using he)]
        simp
    · obtain ⟨acc, h1, h2, h3, h4⟩ := hI
      have hlN : (intsN hs).length = hs.length := by unfold intsN; rw [List.length_map]
      rw [hlN, List.take_length, filter_one hnd ((hm n).mpr ⟨hn, hwn⟩)] at h2
      subst h2
      have s6 : Same H5 H6 := fun b o e => h4 b o (s1 b o e)
      have hD0 : H5 D = none := s1.free hD
      have R6 := R.same s6
      -- if gone != []
      refine ⟨_, rfl, Nat.zero_le _, fun e he => ?_⟩
      have s7 : Same H6 (upd H6 e (.lst [])) := same_new he
      have R7 := R6.same s7
      refine ⟨_, _, _, rfl, rfl, SqL.of (s7 _ _ h1), flat_ints [n], SqL.of upd_same, _, rfl, iteT ?_⟩
      refine ⟨_, rfl, _, _, _, rfl, R7.at_ 0 (by decide), ln_Store_make_ready, c, S, d, rfl, R7, G, F.nf, ?_, F.bud, F.lim, fun S1 H8 R8 Dd F8 => ?_⟩
      · have := nname_le S.m
        have := F.nh
        omega
      have hlim := F.lim
      have F58 : Fr c H5 H8 := Fr.trans (Fr.same (s6.trans s7)) F8
      have hD8 : H8 D = some (.lst (intsN [n])) := F8 D _ (s7 _ _ h1) (R.new hD0)
      refine ⟨_, rfl, _, _, _, rfl, R8.at_ 0 (by decide), ln_Store_lay, _, rfl, _, _, _, rfl, R8.at_ 0 (by decide), ln_Store_held, c, S1, rfl, R8, Dd.good.w65, fun hs2 l2 H9 hnd2 hm2 s9 hl2 hl29 => ?_⟩
      have hD9 := s9 _ _ hD8
      refine ⟨l2, rfl, ⟨_, SqL.of hl29⟩, fun D2 hD2 => ?_⟩
      have hDD : D ≠ D2 := ne_of_none hD9 hD2
      refine lc_list (K := K) (a := l2) (xs := intsN hs2) (fun i H10 => ∃ acc : List Nat, H10 D2 = some (.lst (intsN acc)) ∧ acc.length ≤ i ∧ i ≤ 64 ∧ (∀ m ∈ acc, m < 64) ∧ ∀ b o, H9 b = some o → H10 b = some o)
        ⟨[], upd_same, Nat.zero_le _, by omega, (fun m h => by cases h), fun b o e => by rw [upd_ne (ne_of_none e hD2)]; exact e⟩ (fun i H10 _ ⟨_, _, _, _, _, e⟩ => SqL.of (e _ _ hl29)) (fun i x H10 hi hI => ?_) (fun H10 hI => ?_)
      · obtain ⟨acc, g1, g2, g3, g4, g5⟩ := hI
        obtain ⟨m, hmi, rfl⟩ := intsN_get hi
        have hlen : hs2.length ≤ 64 := by
          rw [nodup_cnt hs2 64 hnd2 fun x hx => ((hm2 x).mp hx).1]
          exact cnt_le
        have hil : i < hs2.length := (List.getElem?_eq_some_iff.mp hmi).1
        refine ⟨rfl, _, rfl, _, rfl, D, _, rfl, .inl (SqL.of (g5 _ _ hD9)), rfl, rfl, _, rfl, ?_⟩
        refine ite2 (fun he => ?_) (fun he => ?_)
        · refine ⟨_, rfl, _, g1, ?_, acc ++ [m], ?_, by rw [List.length_append]; exact Nat.succ_le_succ g2, by omega, fun y hy => ?_, fun b o e => by rw [upd_ne (ne_of_none e hD2)]; exact g5 b o e⟩
          · unfold intsN
            rw [List.length_map]
            exact Nat.lt_of_le_of_lt (Nat.le_trans g2 g3) (by decide)
          · rw [upd_same]
            unfold intsN
            rw [List.map_append]
            rfl
          · rcases List.mem_append.mp hy with e | e
            · exact g4 y e
            · rw [List.mem_singleton.mp e]
              exact ((hm2 m).mp (List.mem_of_getElem? hmi)).1
        · exact ⟨acc, g1, by omega, by omega, g4, g5⟩
      · obtain ⟨acc, g1, g2, g3, g4, g5⟩ := hI
        have s10 : Same H8 H10 := fun b o e => g5 b o (s9 b o e)
        have R10 := R8.same s10
        refine ⟨D2, acc, rfl, SqL.of g1, (fun m hm3 => by have := g4 m hm3; omega), fun z => ?_⟩
        refine ⟨c, S1, 64, z, rfl, R10, Dd.good, Dd.can, by omega, ⟨d + 20, Dd.bud, by omega⟩, fun b t kvs x H11 sp R11 F11 => ?_⟩
        have F811 : Fr c H8 H11 := Fr.trans (Fr.same s10) F11
        have hD11 : H11 D = some (.lst (intsN [n])) := F811 D _ hD8 (R.new hD0)
        obtain ⟨gd, gn⟩ := Dd.put (n := 64) (t := t) (z := z) (kvs := kvs) (x := x) (by omega) sp
        -- for sheet in gone: self.book.forget(sheet)
        refine ⟨_, rfl, D, rfl, ⟨_, SqL.of hD11⟩, for_list (K := K) (a := D) (xs := intsN [n]) (fun i σ H12 => ∃ (y : Option V) (S2 : WS), σ = [some (.ref (c.A 0)), some (.ref a), y, some (.ref D)] ∧ Rep K c S2 H12 ∧ Fr c H5 H12 ∧ H12 D = some (.lst (intsN [n])) ∧
            ((i = 0 ∧ S2 = wput c S1 b 64 t z kvs x) ∨ (0 < i ∧ Done c S S2 n none d)))
          ⟨_, _, rfl, R11, Fr.trans F58 F811, hD11, .inl ⟨rfl, rfl⟩⟩ (fun i σ H12 _ ⟨_, _, _, _, _, e, _⟩ => SqL.of e) ?_ ?_⟩
        · rintro i x' σ H12 hi ⟨y, S2, rfl, R12, F12, hD12, ⟨rfl, rfl⟩ | ⟨h0, _⟩⟩
          · have ex : x' = .int (n : Nat) := (Option.some.inj hi).symm
            subst ex
            refine ⟨_, rfl, _, _, _, _, _, rfl, R12.at_ 0 (by decide), T.c_Store, T.nStore_book, lk_Store_book, _, _, _, rfl, R12.at_ 3 (by decide), ln_Book_forget, _, rfl, c, _, n, rfl, R12, (fun q hq => gd.live1 hq), fun kvs' H13 R13 F13 => ?_⟩
            exact ⟨_, _, rfl, R13, Fr.trans F12 F13, F13 D _ hD12 (R.new hD0), .inr ⟨by omega, Dd.given hn sp⟩⟩
          · exfalso
            cases i with
            | zero => omega
            | succ i => cases hi
        · rintro σ H12 ⟨y, S2, rfl, R12, F12, hD12, ⟨h0, _⟩ | ⟨_, hdn⟩⟩
          · cases h0
          · exact ⟨_, rfl, D, _, rfl, .inl (SqL.of hD12), k S2 H12 R12 hdn F12⟩
end
end Wp
namespace Wp
open PySem PySem.Spec PyProof.Rows L2
def tMethE (C : Addr) (m : Str) (sp : Sp) (E : L2.St → XK) (ta : TE) (t : TA) : TE := fun σ H Q => ta σ H fun x H1 => ∃ a dx fs, x = .ref a ∧ H1 a = some (.ins C dx fs) ∧ fs.lookup m = none ∧ t σ H1 fun vs H2 => sp (x :: vs) H2 Q (E σ)
theorem pe_methE {X : Cx} {CX : CXT} {k : Nat} {C f : Addr} {m : Str} {fd : FuncData} {ps : List Str} {sp : Sp} {E : L2.St → XK} {o e : Expr} {es : List Expr} {ta : TE} {t : TA} {apos pos : Pos} {pl : Sem Bool} (he : PE X o ta) (c : Cls X.K C) (hm : Meth X.K C m f)
    (F : FnOk X.prog X.w X.K X.mg X.base CX k f fd ps sp) (hr : Room k X.A) (hb : Binds X.K fd ps []) (hx : ∀ σ, PassesAt CX X σ (E σ)) (ha : PA X (e :: es) t)
    (hst : starEach (e :: es) X.env = (false, eval e X.env) :: starEach es X.env := by rfl) (hpl : (backTo pos (starEach es X.env)).any (·.1) = false := by rfl)
    (ht : eval (.Call (.Attribute o m apos) (e :: es) [] pos) X.env = (do
      let ov ← eval o X.env
      standAt apos.atName
      let (f, first) ← holding [ov] (getMethod ov m pl)
      callWith pos f first (backTo pos (starEach (e :: es) X.env)) (backToKw pos (keywordEach [] X.env))) := by rfl) :
    PE X (.Call (.Attribute o m apos) (e :: es) [] pos) (tMethE C m sp E ta t) := by
  refine ⟨fun pins s σ H Q I h => ?_⟩
  refine PySem.W.methodCall_KW (pl := pl) (thn (he.run pins s σ H _ I h) fun u s1 ⟨x, H1, I1, rx, a, dx, fs, ex, ea, l, q⟩ => ?_) ht
  subst ex
  obtain rfl : u = Value.ref a := rx
  refine getmeth_ok I1 ea c hm l ?_
  refine PySem.W.callWith_K (first := [.ref a]) (h₀ := X.base) I.ok.mod.kin hm.kp (thn (ha.run pos pins s1 σ H1 _ I1 q) fun us s2 ⟨vs, H2, I2, r, q2⟩ => ⟨I2.kIn, ?_⟩) hst hpl
  exact run_fnS (us := .ref a :: us) (vs := .ref a :: vs) F hr hb (hx σ) I2 (.cons rfl r) q2
def spWriteF (K : PySem.W.Frag) : Sp := fun vs H Q E => ∃ (c : Cf) (S : WS) (n : Nat) (z : Int), vs = [.ref (c.A 0), .int n, .int z] ∧ Rep K c S H ∧ Good c.B c.P S.m ∧ n < 64 ∧ 0 ≤ z ∧ z < 1000000000000000000000000000000 ∧ S.m.whr n = none ∧ c.share ≤ nheld S.m ∧
  ∀ H', Same H H' → E (.ref (He.ga K "Full")) none H'
section
variable {P : Program} {w : World} {K : PySem.W.Frag} {mg : Str → Option Value} {base : Heap}
theorem ok_writeF (T : Txt K mg) {fd : FuncData} (F : FunD K "write" "Plain.write" (defArgs sPlain_write) (defBody sPlain_write) (defScope sPlain_write) [] [] (He.ma K (He.ga K "Store") "write") fd) :
    FnOk P w K mg base (L2.CX P w) 5 (He.ma K (He.ga K "Store") "write") fd ["self", "sheet", "value"] (spWriteF K) := by
  refine F.ok sc_Store_write (fun vs H Q E h => by obtain ⟨_, _, _, _, rfl, _⟩ := h; rfl) (fun cdv A outer s H vs Q E hr h => ?_)
  obtain ⟨c, S, n, z, rfl, R, G, hn, hz0, hz1, hw, hsh, k⟩ := h
  refine ⟨_, pss_cons (ps_expr (C8.pe_mt (ok_Store_need_sheet T) hr (by decide) (pv 0) (pa_cons (pv 1) pa_nil)))
    (pss_cons (ps_if (pt_not (pt_val (C8.pe_c (ok_is_within T) hr (by decide) rfl (pa_cons (pv 2) (pa_cons pe_int (pa_cons (pe_op op_sub (pe_op op_pow pe_int pe_int) pe_int) pa_nil)))))) pss_never pss_nil)
    (pss_cons (ps_if (PW.pt (pw_and (pt_cmp (pc_dnotin (hu_of hr) (pv 1) (pe_fld (pe_fld (pv 0) rfl) rfl))) (pw_and1 (pt_cmpR op_ge (pe_callB call_len_seq (by rfl) T.z_len PySem.boot_len (pa_cons (C8.pe_mt0 (ok_Store_held T) hr (by decide) (pv 0)) pa_nil)) (pe_fld (pe_fld (pv 0) rfl) rfl) (nomark _)))))
      (pss_one (ps_raise rfl (takes_of rfl rfl rfl rfl) (pmk_own PySem.F.excBase_ValueError T.x_Full.1 T.g_Full T.x_Full.2.1 (raises_own T.x_Full.2.2.1 T.x_Full.2.2.2) rfl))) pss_nil)
    pss_never)), ?_⟩
  refine ⟨_, rfl, _, _, _, rfl, R.at_ 0 (by decide), ln_Store_need_sheet, _, rfl, c, S, n, rfl, R, hn, ?_⟩
  refine ⟨_, rfl, _, _, rfl, rfl, ⟨by decide, by decide, by decide⟩, _, _, rfl, rfl, _, _, _, rfl, fun b hb => ?_⟩
  have e30 : (10 : Int) ^ (30 : Int).toNat = 1000000000000000000000000000000 := by decide
  have : b = true := hb.mpr ⟨hz0, by rw [e30]; omega⟩
  subst this
  refine ⟨true, rfl, iteF ?_⟩
  refine ⟨_, rfl, _, rfl, _, _, _, _, _, rfl, R.at_ 0 (by decide), T.c_Store, T.nStore_book, lk_Store_book, _, _, _, _, _, rfl, R.at_ 3 (by decide), T.c_Book, T.nBook_where, lk_Book_where, _, _, rfl, DGet.k (k := Sum.inl (n : Int)) (R.at_ 12 (by decide)), _, rfl, ?_⟩
  rw [R.dic.none_of hw]
  refine iteT ?_
  refine ⟨_, rfl, _, _, _, rfl, R.at_ 0 (by decide), ln_Store_held, c, S, rfl, R, G.w65, fun hs l H1 hnd hm s1 hl hl1 => ?_⟩
  have R1 := R.same s1
  have hlen : hs.length = nheld S.m := by
    rw [nodup_cnt hs 64 hnd fun x hx => ((hm x).mp hx).1]
    refine cnt_congr fun i hi => ?_
    cases e2 : (S.m.whr i).isSome with
    | true => exact decide_eq_true ((hm i).mpr ⟨hi, e2⟩)
    | false => exact decide_eq_false fun z => by rw [((hm i).mp z).2] at e2; cases e2
  refine ⟨_, _, rfl, .inl (SqL.of hl1), _, rfl, _, _, _, _, _, rfl, R1.at_ 0 (by decide), T.c_Store, T.nStore_terms, lk_Store_terms, _, _, _, _, _, rfl, R1.at_ 2 (by decide), T.c_Terms, T.nTerms_share, lk_Terms_share, _, _, rfl, rfl, _, rfl, ?_⟩
  have el : ((intsN hs).length : Int) = ((nheld S.m : Nat) : Int) := by unfold intsN; rw [List.length_map, hlen]
  rw [el, decide_eq_true (by omega)]
  exact iteT (k H1 s1)
def spLawFull (K : PySem.W.Frag) : Sp := fun vs H Q _ => ∃ (c : Cf) (S : WS) (n : Nat), vs = [.ref (c.A 0), .int n] ∧ Rep K c S H ∧ Good c.B c.P S.m ∧ n < 64 ∧ S.m.whr n = none ∧ c.share ≤ nheld S.m ∧
  ∀ H', Q (.bl true) H'
theorem sc_law_full : FnScope ["_law_store", "_law_sheet", "_law_refused"] ["_law_store", "_law_sheet"] (defScope s_law_full) := ⟨rfl, rfl, rfl, by decide +kernel, rfl, by decide +kernel, by decide +kernel⟩
theorem ok_law_full (T : Txt K mg) : C8.Cal P w K mg base 6 "_law_full" (spLawFull K) [] := by
  refine cal T.g_law_full T.d_law_full (ps := ["_law_store", "_law_sheet"]) (fun _ _ _ _ _ _ us hl => match us, hl with | [_, _], _ => rfl) sc_law_full (fun vs H Q E h => by obtain ⟨_, _, _, rfl, _⟩ := h; rfl) (fun cdv A outer s H vs Q E hr h => ?_)
  obtain ⟨c, S, n, rfl, R, G, hn, hw, hsh, k⟩ := h
  obtain ⟨fd, F⟩ := T.dStore_write
  have Fw := ok_writeF (P := P) (w := w) (base := base) T F
  have bd : Binds K fd ["self", "sheet", "value"] [] := F.bindsN (fun _ _ _ _ _ _ us hl => match us, hl with | [_, _, _], _ => rfl)
  refine ⟨_, pss_cons (ps_set (i := 2) sc_law_full.nd rfl (Or.inl rfl) pe_bl)
    (pss_cons (ps_try_only (tb := fun W => tDrop (tMethE (He.ga K "Store") "write" (spWriteF K) (WE W) (tVar 0) (tCons (tVar 1) (tCons (tC (.int 0)) tNil)))) (ts := fun _ _ _ => tAsg (tC (.bl true)) (gName 2)) (Wout := fun _ _ _ _ => False) rfl rfl ⟨rfl, by decide, Or.inl T.g_Full⟩ takes0
      (fun W pn xe tk _ => pss_one (ps_expr (pe_methE (pv 0) T.c_Store T.mStore_write Fw (hr.mono (by decide)) bd (fun σ => passAt tk σ) (pa_cons (pv 1) (pa_cons pe_int pa_nil)))))
      (fun _ _ _ _ _ _ _ => pss_one (ps_set (i := 2) sc_law_full.nd rfl (Or.inl rfl) pe_bl)))
    (pss_one (ps_ret (pv 2)))), ?_⟩
  refine ⟨_, rfl, _, _, _, rfl, R.at_ 0 (by decide), ln_Store_write, _, rfl, ?_⟩
  refine ⟨c, S, n, 0, rfl, R, G, hn, by decide, by decide, hw, hsh, fun H' s => ?_⟩
  refine ⟨true, T.e_Full, fun _ a _ => ?_, fun q => Bool.noConfusion q⟩
  exact ⟨_, rfl, k H'⟩
end
end Wp
namespace Wp
open PySem PySem.Spec PyProof.Rows L2
/-- H is H0 with new objects -/
structure Ext (H0 H : Hp) (l : List (Addr × HO)) : Prop where
  at_ : ∀ q, q ∈ l → H q.1 = some q.2
  new : ∀ q, q ∈ l → H0 q.1 = none
  nd : (l.map (·.1)).Nodup
  old : Same H0 H
section
variable {H0 H : Hp} {l : List (Addr × HO)}
theorem Ext.refl : Ext H H [] := ⟨(fun _ h => nomatch h), (fun _ h => nomatch h), List.nodup_nil, Same.refl H⟩
theorem Ext.hd {q : Addr × HO} (E : Ext H0 H (q :: l)) : H q.1 = some q.2 := E.at_ _ List.mem_cons_self
theorem Ext.alloc {p : Addr} {o : HO} (E : Ext H0 H l) (h : H p = none) : Ext H0 (upd H p o) ((p, o) :: l) := by
  refine ⟨fun q hq => ?_, fun q hq => ?_, ?_, fun b x e => ?_⟩
  · rcases List.mem_cons.mp hq with e | hq
    · rw [e]
      exact upd_same
    · rw [upd_ne (ne_of_none (E.at_ q hq) h)]
      exact E.at_ q hq
  · rcases List.mem_cons.mp hq with e | hq
    · rw [e]
      exact E.old.free h
    · exact E.new q hq
  · refine List.nodup_cons.mpr ⟨fun hm => ?_, E.nd⟩
    obtain ⟨q, hq, e⟩ := List.mem_map.mp hm
    have := E.at_ q hq
    rw [e, h] at this
    cases this
  · rw [upd_ne (ne_of_none (E.old b x e) h)]
    exact E.old b x e
theorem Ext.perm {l' : List (Addr × HO)} (E : Ext H0 H l) (h : l.Perm l') : Ext H0 H l' :=
  ⟨fun q hq => E.at_ q (h.mem_iff.mpr hq), fun q hq => E.new q (h.mem_iff.mpr hq), (h.map _).nodup_iff.mp E.nd, E.old⟩
theorem Ext.sub {l' : List (Addr × HO)} (E : Ext H0 H l) (h : l'.Sublist l) : Ext H0 H l' :=
  ⟨fun q hq => E.at_ q (h.subset hq), fun q hq => E.new q (h.subset hq), (h.map _).nodup E.nd, E.old⟩
/-- bring x to the head -/
theorem Ext.up (m : List (Addr × HO)) {x : Addr × HO} (E : Ext H0 H (m ++ x :: l)) : Ext H0 H (x :: (m ++ l)) := E.perm List.perm_middle
/-- forget x -/
theorem Ext.drop (m : List (Addr × HO)) {x : Addr × HO} (E : Ext H0 H (m ++ x :: l)) : Ext H0 H (m ++ l) := E.sub (List.Sublist.append_left (List.sublist_cons_self x l) m)
theorem Ext.alloc1 {q : Addr × HO} {p : Addr} {o : HO} (E : Ext H0 H (q :: l)) (h : H p = none) : Ext H0 (upd H p o) (q :: (p, o) :: l) := (E.alloc h).perm (List.Perm.swap ..)
theorem Ext.set {x : Addr} {o o' : HO} (E : Ext H0 H ((x, o) :: l)) : Ext H0 (upd H x o') ((x, o') :: l) := by
  have hx : ∀ q, q ∈ l → q.1 ≠ x := fun q hq e => (List.nodup_cons.mp E.nd).1 (List.mem_map.mpr ⟨q, hq, e⟩)
  refine ⟨fun q hq => ?_, fun q hq => ?_, E.nd, fun b y e => ?_⟩
  · rcases List.mem_cons.mp hq with e | hq
    · rw [e]
      exact upd_same
    · rw [upd_ne (hx q hq)]
      exact E.at_ q (List.mem_cons_of_mem _ hq)
  · rcases List.mem_cons.mp hq with e | hq
    · rw [e]
      exact E.new (x, o) List.mem_cons_self
    · exact E.new q (List.mem_cons_of_mem _ hq)
  · rw [upd_ne fun z => by
      have := E.new (x, o) List.mem_cons_self
      rw [← z, e] at this
      cases this]
    exact E.old b y e
theorem Ext.make {C x dx : Addr} (E : Ext H0 H l) (h1 : H x = none) (h2 : H dx = none) (h3 : dx ≠ x) : Ext H0 (upd (upd H dx (.own x)) x (.ins C dx [])) ((x, .ins C dx []) :: (dx, .own x) :: l) :=
  (E.alloc h2).alloc (by rw [upd_ne h3.symm]; exact h1)
/-- a field set, the object kept at the head -/
theorem Ext.fld {K : PySem.W.Frag} {x C dx : Addr} {fs : List (Str × V)} {f : Str} {y : V} {N : Hp → Prop} (E : Ext H0 H ((x, .ins C dx fs) :: l)) (c : Cls K C) (n : NoAttr K C f) (hl : Nat.ble fs.length 900 = true)
    (k : ∀ H', Ext H0 H' ((x, .ins C dx (putF f y fs)) :: l) → N H') :
    ∃ a C' dx' fs', V.ref x = .ref a ∧ H a = some (.ins C' dx' fs') ∧ Cls K C' ∧ NoAttr K C' f ∧ fs'.length < 1000 ∧ N (upd H a (.ins C' dx' (putF f y fs'))) := ⟨x, C, dx, fs, rfl, E.hd, c, n, Nat.lt_of_le_of_lt (Nat.le_of_ble_eq_true hl) (by decide), k _ E.set⟩
end
theorem rep_mkL {n : Nat} {v : V} : (List.replicate ((n : Nat) : Int).toNat [v]).flatten = mkL n fun _ => v := by
  rw [Int.toNat_natCast]
  unfold mkL
  rw [List.map_const', List.length_range]
  induction n with
  | zero => rfl
  | succ n ih => rw [List.replicate_succ, List.flatten_cons, ih, List.replicate_succ]; rfl
/-- [v] * n : the two new lists -/
theorem rep_lst {H0 H : Hp} {l : List (Addr × HO)} {q : Addr × HO} {v : V} {n : Nat} {N : V → Hp → Prop} (E : Ext H0 H (q :: l)) (hn : n ≤ 1000)
    (k : ∀ a H', Ext H0 H' (q :: (a, .lst (mkL n fun _ => v)) :: l) → N (.ref a) H') {p : Addr} (hp : H p = none) : rRep (.ref p) (.int (n : Nat)) (upd H p (.lst [v])) N := by
  refine ⟨p, _, [v], rfl, rfl, upd_same, by omega, by omega, ?_, fun a ha => ?_⟩
  · rw [Int.toNat_natCast]
    show 1 * n ≤ _
    have : (1000 : Nat) ≤ sizeLine := by decide
    omega
  · rw [rep_mkL]
    refine k a _ ?_
    have E2 := (E.alloc1 (o := .lst [v]) hp).alloc1 (o := .lst (mkL n fun _ => v)) ha
    exact E2.drop [q, (a, _)]
def fBk (B P : Nat) (a12 a13 a14 a15 a16 : Addr) : List (Str × V) := [("blocks", .int B), ("pages", .int P), ("where", .ref a12), ("names", .ref a13), ("live", .ref a14), ("filled", .ref a15), ("born", .ref a16), ("stamp", .int 1)]
def spBookI (K : PySem.W.Frag) : Sp := fun vs H Q _ => ∃ (H0 : Hp) (x dx : Addr) (l : List (Addr × HO)) (B P : Nat), vs = [.ref x, .int (B : Nat), .int (P : Nat)] ∧ Ext H0 H ((x, .ins (He.ga K "Book") dx []) :: l) ∧ B ≤ 16 ∧ P ≤ 16 ∧
  ∀ a12 a13 a14 a15 a16 H', Ext H0 H' ((x, .ins (He.ga K "Book") dx (fBk B P a12 a13 a14 a15 a16)) :: (a16, .lst (mkL B fun _ => .int 0)) :: (a15, .lst (mkL B fun _ => .int 0)) :: (a14, .lst (mkL B fun _ => .int 0)) :: (a13, .lst (mkL (B * P) fun _ => .non)) :: (a12, .dK []) :: l) → Q .non H'
def spEnd : Sp := fun vs H Q _ => ∃ (H0 : Hp) (q : Addr × HO) (l : List (Addr × HO)) (B : Nat), vs = [.int (B : Nat), .non] ∧ Ext H0 H (q :: l) ∧ B ≤ 16 ∧
  ∀ a H', Ext H0 H' (q :: (a, .lst (mkL B fun _ => .non)) :: l) → Q (.ref a) H'
section
variable {P : Program} {w : World} {K : PySem.W.Frag} {mg : Str → Option Value} {base : Heap}
theorem sc_Book_init : FnScope ["self", "blocks", "pages"] ["self", "blocks", "pages"] (defScope sBook_init) := ⟨rfl, rfl, rfl, by decide +kernel, rfl, by decide +kernel, by decide +kernel⟩
theorem ok_Book_init (T : Txt K mg) : C8.Mak P w K mg base 1 "Book" (He.ga K "Book") (spBookI K) [] := by
  refine mak T.k_Book T.g_Book T.dBook_init (ps := ["self", "blocks", "pages"]) (fun _ _ _ _ _ _ us hl => match us, hl with | [_, _, _], _ => rfl) sc_Book_init (fun vs H Q E h => by obtain ⟨_, _, _, _, _, _, rfl, _⟩ := h; rfl) (fun cdv A outer s H vs Q E hr h => ?_)
  obtain ⟨H0, x, dx, l, B, P, rfl, E, hB, hP, k⟩ := h
  refine ⟨_, pss_cons (ps_fld (pv 0) (pv 1) rfl)
    (pss_cons (ps_fld (pv 0) (pv 2) rfl)
    (pss_cons (ps_fld (pv 0) pe_dnewK rfl)
    (pss_cons (ps_fld (pv 0) (pe_op op_rep (pe_lst (pa_cons pe_non pa_nil)) (pe_op op_mulNat (pv 1) (pv 2))) rfl)
    (pss_cons (ps_fld (pv 0) (pe_op op_rep (pe_lst (pa_cons pe_int pa_nil)) (pv 1)) rfl)
    (pss_cons (ps_fld (pv 0) (pe_op op_rep (pe_lst (pa_cons pe_int pa_nil)) (pv 1)) rfl)
    (pss_cons (ps_fld (pv 0) (pe_op op_rep (pe_lst (pa_cons pe_int pa_nil)) (pv 1)) rfl)
    (pss_one (ps_fld (pv 0) pe_int rfl)))))))), ?_⟩
  refine ⟨_, rfl, _, rfl, E.fld T.c_Book T.nBook_blocks rfl fun H1 E1 => ?_⟩
  refine ⟨_, rfl, _, rfl, E1.fld T.c_Book T.nBook_pages (by kernel_rfl) fun H2 E2 => ?_⟩
  refine fun a12 h12 => ⟨_, rfl, (E2.alloc1 (o := .dK []) h12).fld T.c_Book T.nBook_where (by kernel_rfl) fun H3 E3 => ?_⟩
  refine ⟨by decide, fun p hp => ⟨_, rfl, _, rfl, B, P, rfl, rfl, by omega, rep_lst E3 (show B * P ≤ 1000 from Nat.le_trans (Nat.mul_le_mul hB hP) (by decide)) (fun a13 H4 E4 => ?_) hp⟩⟩
  refine ⟨_, rfl, E4.fld T.c_Book T.nBook_names (by kernel_rfl) fun H5 E5 => ?_⟩
  refine ⟨by decide, fun p hp => ⟨_, rfl, rep_lst E5 (show B ≤ 1000 by omega) (fun a14 H6 E6 => ?_) hp⟩⟩
  refine ⟨_, rfl, E6.fld T.c_Book T.nBook_live (by kernel_rfl) fun H7 E7 => ?_⟩
  refine ⟨by decide, fun p hp => ⟨_, rfl, rep_lst E7 (show B ≤ 1000 by omega) (fun a15 H8 E8 => ?_) hp⟩⟩
  refine ⟨_, rfl, E8.fld T.c_Book T.nBook_filled (by kernel_rfl) fun H9 E9 => ?_⟩
  refine ⟨by decide, fun p hp => ⟨_, rfl, rep_lst E9 (show B ≤ 1000 by omega) (fun a16 H10 E10 => ?_) hp⟩⟩
  refine ⟨_, rfl, E10.fld T.c_Book T.nBook_born (by kernel_rfl) fun H11 E11 => ?_⟩
  refine ⟨_, rfl, E11.fld T.c_Book T.nBook_stamp (by kernel_rfl) fun H12 E12 => ?_⟩
  exact k a12 a13 a14 a15 a16 H12 E12
theorem sc_endurance : FnScope ["blocks", "ills", "found", "block", "good"] ["blocks", "ills"] (defScope sendurance) := ⟨rfl, rfl, rfl, by decide +kernel, rfl, by decide +kernel, by decide +kernel⟩
theorem ok_endurance (T : Txt K mg) : C8.Cal P w K mg base 1 "endurance" (spEnd) [] := by
  refine cal T.g_endurance T.d_endurance (ps := ["blocks", "ills"]) (fun _ _ _ _ _ _ us hl => match us, hl with | [_, _], _ => rfl) sc_endurance (fun vs H Q E h => by obtain ⟨_, _, _, _, rfl, _⟩ := h; rfl) (fun cdv A outer s H vs Q E hr h => ?_)
  obtain ⟨H0, q, l, B, rfl, E, hB, k⟩ := h
  refine ⟨_, pss_cons (ps_set (i := 2) sc_endurance.nd rfl (Or.inl rfl) (pe_op op_rep (pe_lst (pa_cons pe_non pa_nil)) (pv 0)))
    (pss_cons (ps_if (pt_cmpR op_isN (pv 1) pe_non (nomark _)) (pss_one (ps_ret (pv 2))) pss_nil)
    pss_never), ?_⟩
  refine ⟨by decide, fun p hp => ⟨_, rfl, rep_lst E (show B ≤ 1000 by omega) (fun a H1 E1 => ?_) hp⟩⟩
  exact ⟨_, rfl, rfl, _, rfl, iteT ⟨_, rfl, k a H1 E1⟩⟩
end
end Wp
namespace Wp
open PySem PySem.Spec PyProof.Rows L2
def fCh (B P : Nat) (a6 a7 a8 a9 a10 a11 : Addr) : List (Str × V) := [("blocks", .int B), ("pages", .int P), ("most", .int 1000000), ("lasts", .ref a6), ("stuff", .ref a7), ("tried", .ref a8), ("clearings", .ref a9), ("broken", .ref a10), ("left", .non), ("log", .ref a11)]
def fTm (B P share ill : Nat) : List (Str × V) := [("blocks", .int B), ("pages", .int P), ("sheets", .int 64), ("share", .int share), ("ill", .int ill), ("spread", .int 1000000)]
def spChipI (K : PySem.W.Frag) : Sp := fun vs H Q _ => ∃ (H0 : Hp) (x dx : Addr) (l : List (Addr × HO)) (B P : Nat), vs = [.ref x, .int (B : Nat), .int (P : Nat), .int 1000000, .non] ∧ Ext H0 H ((x, .ins (He.ga K "Chip") dx []) :: l) ∧ (2 ≤ B ∧ B ≤ 16) ∧ (1 ≤ P ∧ P ≤ 16) ∧
  ∀ a6 a7 a8 a9 a10 a11 H', Ext H0 H' ((x, .ins (He.ga K "Chip") dx (fCh B P a6 a7 a8 a9 a10 a11)) :: (a11, .lst []) :: (a10, .lst (mkL B fun _ => .bl false)) :: (a9, .lst (mkL B fun _ => .int 0)) :: (a8, .lst (mkL B fun _ => .int 0)) :: (a7, .lst (mkL (B * P) fun _ => .non)) :: (a6, .lst (mkL B fun _ => .non)) :: l) → Q .non H'
def spClosed (K : PySem.W.Frag) : Sp := fun vs H Q _ => ∃ (x dx : Addr) (fs : List (Str × V)) (B ill : Nat), vs = [.ref x] ∧ H x = some (.ins (He.ga K "Terms") dx fs) ∧ fs.lookup ("blocks" : Str) = some (.int B) ∧ fs.lookup ("ill" : Str) = some (.int ill) ∧ Q (.int ((B : Int) - 1 - (ill : Int))) H
def spTermsI (K : PySem.W.Frag) : Sp := fun vs H Q _ => ∃ (H0 : Hp) (x dx : Addr) (l : List (Addr × HO)) (B P share ill : Nat), vs = [.ref x, .int (B : Nat), .int (P : Nat), .int 64, .int (share : Nat), .int (ill : Nat), .int 1000000] ∧ Ext H0 H ((x, .ins (He.ga K "Terms") dx []) :: l) ∧ (2 ≤ B ∧ B ≤ 16) ∧ (1 ≤ P ∧ P ≤ 16) ∧
  ill + 2 ≤ B ∧ 1 ≤ share ∧ share + 2 = (B - 1 - ill) * P ∧
  ∀ H', Ext H0 H' ((x, .ins (He.ga K "Terms") dx (fTm B P share ill)) :: l) → Q .non H'
section
variable {P : Program} {w : World} {K : PySem.W.Frag} {mg : Str → Option Value} {base : Heap}
theorem sc_Chip_init : FnScope ["self", "blocks", "pages", "most", "ills"] ["self", "blocks", "pages", "most", "ills"] (defScope sChip_init) := ⟨rfl, rfl, rfl, by decide +kernel, rfl, by decide +kernel, by decide +kernel⟩
theorem ok_Chip_init (T : Txt K mg) : C8.Mak P w K mg base 4 "Chip" (He.ga K "Chip") (spChipI K) [.int 1000000, .non] := by
  obtain ⟨fd, F⟩ := T.dChip_init
  obtain ⟨ds, hd, hb⟩ := F.binds1 (ps := ["self", "blocks", "pages", "most", "ills"]) 3 0 (by simp) rfl (fun T kV doc pm an cdv ct us its h1 h2 => match us, its, h1, h2 with | [_, _, _], [_, _], _, _ => ⟨_, rfl, rfl⟩)
  refine ⟨_, fd, _, ds, T.k_Chip, fd_ok F sc_Chip_init (fun vs H Q E h => by obtain ⟨_, _, _, _, _, _, rfl, _⟩ := h; rfl) (fun cdv A outer s H vs Q E hr h => ?_), T.g_Chip, hb, hd⟩
  obtain ⟨H0, x, dx, l, B, P, rfl, E, hB, hP, k⟩ := h
  obtain ⟨tM, hM⟩ := T.i_MANY
  obtain ⟨tO, hO⟩ := T.i_MOST
  refine ⟨_, pss_cons (ps_if (PW.pt (pw_or (pt_not (pt_val (C8.pe_c (ok_is_within T) hr (by decide) rfl (pa_cons (pv 1) (pa_cons pe_int (pa_cons (C8.pe_gc (v := .int 16) rfl ⟨_, hM, _, rfl⟩) pa_nil))))))
      (pw_or (pt_not (pt_val (C8.pe_c (ok_is_within T) hr (by decide) rfl (pa_cons (pv 2) (pa_cons pe_int (pa_cons (C8.pe_gc (v := .int 16) rfl ⟨_, hM, _, rfl⟩) pa_nil))))))
      (pw_or1 (pt_not (pt_val (C8.pe_c (ok_is_within T) hr (by decide) rfl (pa_cons (pv 3) (pa_cons pe_int (pa_cons (C8.pe_gc (v := .int 1000000) rfl ⟨_, hO, _, rfl⟩) pa_nil)))))))))) pss_never pss_nil)
    (pss_cons (ps_fld (pv 0) (pv 1) rfl)
    (pss_cons (ps_fld (pv 0) (pv 2) rfl)
    (pss_cons (ps_fld (pv 0) (pv 3) rfl)
    (pss_cons (ps_fld (pv 0) (C8.pe_c (ok_endurance T) hr (by decide) rfl (pa_cons (pv 1) (pa_cons (pv 4) pa_nil))) rfl)
    (pss_cons (ps_fld (pv 0) (pe_op op_rep (pe_lst (pa_cons pe_non pa_nil)) (pe_op op_mulNat (pv 1) (pv 2))) rfl)
    (pss_cons (ps_fld (pv 0) (pe_op op_rep (pe_lst (pa_cons pe_int pa_nil)) (pv 1)) rfl)
    (pss_cons (ps_fld (pv 0) (pe_op op_rep (pe_lst (pa_cons pe_int pa_nil)) (pv 1)) rfl)
    (pss_cons (ps_fld (pv 0) (pe_op op_rep (pe_lst (pa_cons pe_bl pa_nil)) (pv 1)) rfl)
    (pss_cons (ps_fld (pv 0) pe_non rfl)
    (pss_one (ps_fld (pv 0) (pe_lst pa_nil) rfl))))))))))), ?_⟩
  refine ⟨_, rfl, _, _, _, rfl, fun b hb => ?_⟩
  obtain rfl : b = true := hb.mpr ⟨by omega, by omega⟩
  refine ⟨true, rfl, iteF ?_⟩
  refine ⟨_, rfl, _, _, _, rfl, fun b hb => ?_⟩
  obtain rfl : b = true := hb.mpr ⟨by omega, by omega⟩
  refine ⟨true, rfl, iteF ?_⟩
  refine ⟨_, rfl, _, _, _, rfl, fun b hb => ?_⟩
  obtain rfl : b = true := hb.mpr ⟨by decide, by decide⟩
  refine ⟨true, rfl, iteF ?_⟩
  refine ⟨_, rfl, _, rfl, E.fld T.c_Chip T.nChip_blocks rfl fun H1 E1 => ?_⟩
  refine ⟨_, rfl, _, rfl, E1.fld T.c_Chip T.nChip_pages (by kernel_rfl) fun H2 E2 => ?_⟩
  refine ⟨_, rfl, _, rfl, E2.fld T.c_Chip T.nChip_most (by kernel_rfl) fun H3 E3 => ?_⟩
  refine ⟨_, rfl, _, rfl, H0, _, _, B, rfl, E3, hB.2, fun a6 H4 E4 => ?_⟩
  refine ⟨_, rfl, E4.fld T.c_Chip T.nChip_lasts (by kernel_rfl) fun H5 E5 => ?_⟩
  refine ⟨by decide, fun p hp => ⟨_, rfl, _, rfl, B, P, rfl, rfl, by omega, rep_lst E5 (show B * P ≤ 1000 from Nat.le_trans (Nat.mul_le_mul hB.2 hP.2) (by decide)) (fun a7 H6 E6 => ?_) hp⟩⟩
  refine ⟨_, rfl, E6.fld T.c_Chip T.nChip_stuff (by kernel_rfl) fun H7 E7 => ?_⟩
  refine ⟨by decide, fun p hp => ⟨_, rfl, rep_lst E7 (show B ≤ 1000 by omega) (fun a8 H8 E8 => ?_) hp⟩⟩
  refine ⟨_, rfl, E8.fld T.c_Chip T.nChip_tried (by kernel_rfl) fun H9 E9 => ?_⟩
  refine ⟨by decide, fun p hp => ⟨_, rfl, rep_lst E9 (show B ≤ 1000 by omega) (fun a9 H10 E10 => ?_) hp⟩⟩
  refine ⟨_, rfl, E10.fld T.c_Chip T.nChip_clearings (by kernel_rfl) fun H11 E11 => ?_⟩
  refine ⟨by decide, fun p hp => ⟨_, rfl, rep_lst E11 (show B ≤ 1000 by omega) (fun a10 H12 E12 => ?_) hp⟩⟩
  refine ⟨_, rfl, E12.fld T.c_Chip T.nChip_broken (by kernel_rfl) fun H13 E13 => ?_⟩
  refine ⟨_, rfl, E13.fld T.c_Chip T.nChip_left (by kernel_rfl) fun H14 E14 => ?_⟩
  refine ⟨Nat.zero_le _, fun a11 hp => ⟨_, rfl, (E14.alloc1 (o := .lst []) hp).fld T.c_Chip T.nChip_log (by kernel_rfl) fun H15 E15 => ?_⟩⟩
  exact k a6 a7 a8 a9 a10 a11 H15 E15
theorem sc_Terms_closed : FnScope ["self"] ["self"] (defScope sTerms_closed) := ⟨rfl, rfl, rfl, by decide +kernel, rfl, by decide +kernel, by decide +kernel⟩
theorem ok_Terms_closed (T : Txt K mg) : C8.Met P w K mg base 1 (He.ga K "Terms") "closed" (spClosed K) [] := by
  refine met T.c_Terms T.mTerms_closed T.dTerms_closed (ps := ["self"]) (fun _ _ _ _ _ _ us hl => match us, hl with | [_], _ => rfl) sc_Terms_closed (fun vs H Q E h => by obtain ⟨_, _, _, _, _, rfl, _⟩ := h; rfl) (fun cdv A outer s H vs Q E hr h => ?_)
  obtain ⟨x, dx, fs, B, ill, rfl, e, l1, l2, k⟩ := h
  refine ⟨_, pss_one (ps_ret (pe_op op_sub (pe_op op_sub (pe_fld (pv 0) rfl) pe_int) (pe_fld (pv 0) rfl))), ?_⟩
  exact ⟨_, rfl, _, _, _, _, _, rfl, e, T.c_Terms, T.nTerms_blocks, l1, _, _, rfl, rfl, _, rfl, _, _, _, _, _, rfl, e, T.c_Terms, T.nTerms_ill, l2, _, _, rfl, rfl, k⟩
theorem sc_Terms_init : FnScope ["self", "blocks", "pages", "sheets", "share", "ill", "spread"] ["self", "blocks", "pages", "sheets", "share", "ill", "spread"] (defScope sTerms_init) := ⟨rfl, rfl, rfl, by decide +kernel, rfl, by decide +kernel, by decide +kernel⟩
theorem ok_Terms_init (T : Txt K mg) : C8.Mak P w K mg base 4 "Terms" (He.ga K "Terms") (spTermsI K) [.int 1000000] := by
  obtain ⟨fd, F⟩ := T.dTerms_init
  obtain ⟨ds, hd, hb⟩ := F.binds1 (ps := ["self", "blocks", "pages", "sheets", "share", "ill", "spread"]) 6 1 (by simp) rfl (fun T kV doc pm an cdv ct us its h1 h2 => match us, its, h1, h2 with | [_, _, _, _, _, _], [_, _], _, _ => ⟨_, rfl, rfl⟩)
  refine ⟨_, fd, _, ds, T.k_Terms, fd_ok F sc_Terms_init (fun vs H Q E h => by obtain ⟨_, _, _, _, _, _, _, _, rfl, _⟩ := h; rfl) (fun cdv A outer s H vs Q E hr h => ?_), T.g_Terms, hb, hd⟩
  obtain ⟨H0, x, dx, l, B, P, share, ill, rfl, E, hB, hP, hi, hs1, hs2, k⟩ := h
  refine ⟨_, pss_cons (ps_if (PW.pt (pw_or (pt_not (pt_val (C8.pe_c (ok_is_within T) hr (by decide) rfl (pa_cons (pv 1) (pa_cons pe_int (pa_cons pe_int pa_nil))))))
      (pw_or (pt_not (pt_val (C8.pe_c (ok_is_within T) hr (by decide) rfl (pa_cons (pv 2) (pa_cons pe_int (pa_cons pe_int pa_nil))))))
      (pw_or1 (pt_not (pt_val (C8.pe_c (ok_is_within T) hr (by decide) rfl (pa_cons (pv 3) (pa_cons pe_int (pa_cons pe_int pa_nil)))))))))) pss_never pss_nil)
    (pss_cons (ps_if (PW.pt (pw_or (pt_not (pt_val (C8.pe_c (ok_is_within T) hr (by decide) rfl (pa_cons (pv 5) (pa_cons pe_int (pa_cons (pe_op op_sub (pv 1) pe_int) pa_nil))))))
      (pw_or1 (pt_not (pt_val (C8.pe_c (ok_is_within T) hr (by decide) rfl (pa_cons (pv 6) (pa_cons pe_int (pa_cons pe_int pa_nil))))))))) pss_never pss_nil)
    (pss_cons (ps_fld (pv 0) (pv 1) rfl)
    (pss_cons (ps_fld (pv 0) (pv 2) rfl)
    (pss_cons (ps_fld (pv 0) (pv 3) rfl)
    (pss_cons (ps_fld (pv 0) (pv 4) rfl)
    (pss_cons (ps_fld (pv 0) (pv 5) rfl)
    (pss_cons (ps_fld (pv 0) (pv 6) rfl)
    (pss_one (ps_if (pt_not (pt_val (C8.pe_c (ok_is_within T) hr (by decide) rfl (pa_cons (pv 4) (pa_cons pe_int (pa_cons (pe_op op_sub (pe_op op_mul (C8.pe_mt0 (ok_Terms_closed T) hr (by decide) (pv 0)) (pv 2)) pe_int) pa_nil)))))) pss_never pss_nil))))))))), ?_⟩
  refine ⟨_, rfl, _, _, _, rfl, fun b hb => ?_⟩
  obtain rfl : b = true := hb.mpr ⟨by omega, by omega⟩
  refine ⟨true, rfl, iteF ?_⟩
  refine ⟨_, rfl, _, _, _, rfl, fun b hb => ?_⟩
  obtain rfl : b = true := hb.mpr ⟨by omega, by omega⟩
  refine ⟨true, rfl, iteF ?_⟩
  refine ⟨_, rfl, _, _, _, rfl, fun b hb => ?_⟩
  obtain rfl : b = true := hb.mpr ⟨by decide, by decide⟩
  refine ⟨true, rfl, iteF ?_⟩
  refine ⟨_, rfl, _, rfl, _, _, rfl, rfl, _, _, _, rfl, fun b hb => ?_⟩
  obtain rfl : b = true := hb.mpr ⟨by omega, by omega⟩
  refine ⟨true, rfl, iteF ?_⟩
  refine ⟨_, rfl, _, _, _, rfl, fun b hb => ?_⟩
  obtain rfl : b = true := hb.mpr ⟨by decide, by decide⟩
  refine ⟨true, rfl, iteF ?_⟩
  refine ⟨_, rfl, _, rfl, E.fld T.c_Terms T.nTerms_blocks rfl fun H1 E1 => ?_⟩
  refine ⟨_, rfl, _, rfl, E1.fld T.c_Terms T.nTerms_pages (by kernel_rfl) fun H2 E2 => ?_⟩
  refine ⟨_, rfl, _, rfl, E2.fld T.c_Terms T.nTerms_sheets (by kernel_rfl) fun H3 E3 => ?_⟩
  refine ⟨_, rfl, _, rfl, E3.fld T.c_Terms T.nTerms_share (by kernel_rfl) fun H4 E4 => ?_⟩
  refine ⟨_, rfl, _, rfl, E4.fld T.c_Terms T.nTerms_ill (by kernel_rfl) fun H5 E5 => ?_⟩
  refine ⟨_, rfl, _, rfl, E5.fld T.c_Terms T.nTerms_spread (by kernel_rfl) fun H6 E6 => ?_⟩
  have E7 : Ext H0 H6 ((x, .ins (He.ga K "Terms") dx (fTm B P share ill)) :: l) := E6
  have ln : (fTm B P share ill).lookup ("closed" : Str) = none := by kernel_rfl
  have l1 : (fTm B P share ill).lookup ("blocks" : Str) = some (.int B) := by kernel_rfl
  have l2 : (fTm B P share ill).lookup ("ill" : Str) = some (.int ill) := by kernel_rfl
  have em : ((B : Int) - 1 - (ill : Int)) * (P : Int) = ((share + 2 : Nat) : Int) := by
    have e1 : ((B - 1 - ill : Nat) : Int) = (B : Int) - 1 - (ill : Int) := by omega
    rw [hs2, ← e1]
    rfl
  refine ⟨_, rfl, _, rfl, _, _, _, rfl, E7.hd, ln, x, dx, _, B, ill, rfl, E7.hd, l1, l2, _, rfl, _, _, rfl, rfl, .inl ⟨by omega, by omega⟩, _, _, rfl, rfl, _, _, _, rfl, fun b hb => ?_⟩
  rw [em] at hb
  obtain rfl : b = true := hb.mpr ⟨by omega, by omega⟩
  exact ⟨true, rfl, iteF (k H6 E7)⟩
end
end Wp
namespace Wp
open PySem PySem.Spec PyProof.Rows L2
section
variable {K : PySem.W.Frag} {mg : Str → Option Value}
theorem Txt.plain (T : Txt K mg) : ClX.CRead K (He.ga K "Plain") (.type "type") ∧ ClX.CVal K (He.ga K "Plain") (.type "type") "__init__" (.ref (He.ma K (He.ga K "Plain") "__init__")) (.ref (He.ma K (He.ga K "Plain") "__init__")) := by
  have e := T.ex
  unfold Wp.ex at e
  rw [Bool.and_eq_true, Bool.and_eq_true, Bool.and_eq_true] at e
  obtain ⟨e1, e2, e3, _⟩ := e
  refine ⟨⟨e1, of_decide_eq_true e2⟩, ⟨?_, rfl⟩⟩
  split at e3
  · rename_i v q
    rw [q, of_decide_eq_true e3]
  · cases e3
theorem Txt.rule (T : Txt K mg) {x : String} (h : x ∈ (["Rule", "Fewest", "Eldest", "Worth"] : List String)) : Mk0 K (He.ga K x) := by
  have e := T.ex
  unfold Wp.ex at e
  rw [Bool.and_eq_true, Bool.and_eq_true, Bool.and_eq_true] at e
  have := List.all_eq_true.mp e.2.2.2 x h
  rw [Bool.and_eq_true, Bool.and_eq_true, Bool.and_eq_true] at this
  exact ⟨this.1, of_decide_eq_true this.2.1, this.2.2.1⟩
end
def fS3 (ch tm bk : Addr) : List (Str × V) := [("chip", .ref ch), ("terms", .ref tm), ("book", .ref bk)]
def fS5 (ch tm bk ru pp : Addr) : List (Str × V) := [("chip", .ref ch), ("terms", .ref tm), ("book", .ref bk), ("rule", .ref ru), ("papers", .ref pp)]
def spPlainI (K : PySem.W.Frag) : Sp := fun vs H Q _ => ∃ (H0 : Hp) (x dx ch dc tm dt : Addr) (fc ft : List (Str × V)) (l : List (Addr × HO)) (B P : Nat), vs = [.ref x, .ref ch, .ref tm] ∧ Ext H0 H ((x, .ins (He.ga K "Store") dx []) :: l) ∧
  (ch, .ins (He.ga K "Chip") dc fc) ∈ l ∧ (tm, .ins (He.ga K "Terms") dt ft) ∈ l ∧ fc.lookup ("blocks" : Str) = some (.int B) ∧ fc.lookup ("pages" : Str) = some (.int P) ∧ ft.lookup ("blocks" : Str) = some (.int B) ∧ ft.lookup ("pages" : Str) = some (.int P) ∧ B ≤ 16 ∧ P ≤ 16 ∧
  ∀ bk db a12 a13 a14 a15 a16 H', Ext H0 H' ((x, .ins (He.ga K "Store") dx (fS3 ch tm bk)) :: (bk, .ins (He.ga K "Book") db (fBk B P a12 a13 a14 a15 a16)) :: (a16, .lst (mkL B fun _ => .int 0)) :: (a15, .lst (mkL B fun _ => .int 0)) :: (a14, .lst (mkL B fun _ => .int 0)) :: (a13, .lst (mkL (B * P) fun _ => .non)) :: (a12, .dK []) :: l) → Q .non H'
def spStoreI (K : PySem.W.Frag) : Sp := fun vs H Q _ => ∃ (H0 : Hp) (x dx ch dc tm dt ru : Addr) (fc ft : List (Str × V)) (l : List (Addr × HO)) (B P : Nat), vs = [.ref x, .ref ch, .ref tm, .ref ru] ∧ Ext H0 H ((x, .ins (He.ga K "Store") dx []) :: l) ∧
  (ch, .ins (He.ga K "Chip") dc fc) ∈ l ∧ (tm, .ins (He.ga K "Terms") dt ft) ∈ l ∧ fc.lookup ("blocks" : Str) = some (.int B) ∧ fc.lookup ("pages" : Str) = some (.int P) ∧ ft.lookup ("blocks" : Str) = some (.int B) ∧ ft.lookup ("pages" : Str) = some (.int P) ∧ B ≤ 16 ∧ P ≤ 16 ∧
  ∀ pp bk db a12 a13 a14 a15 a16 H', Ext H0 H' ((x, .ins (He.ga K "Store") dx (fS5 ch tm bk ru pp)) :: (pp, .lst []) :: (bk, .ins (He.ga K "Book") db (fBk B P a12 a13 a14 a15 a16)) :: (a16, .lst (mkL B fun _ => .int 0)) :: (a15, .lst (mkL B fun _ => .int 0)) :: (a14, .lst (mkL B fun _ => .int 0)) :: (a13, .lst (mkL (B * P) fun _ => .non)) :: (a12, .dK []) :: l) → Q .non H'
section
variable {P : Program} {w : World} {K : PySem.W.Frag} {mg : Str → Option Value} {base : Heap}
theorem sc_Plain_init : FnScope ["self", "chip", "terms"] ["self", "chip", "terms"] (defScope sPlain_init) := ⟨rfl, rfl, rfl, by decide +kernel, rfl, by decide +kernel, by decide +kernel⟩
theorem ok_Plain_init (T : Txt K mg) {fd : FuncData} (F : FunD K "__init__" "Plain.__init__" (defArgs sPlain_init) (defBody sPlain_init) (defScope sPlain_init) [] [] (He.ma K (He.ga K "Plain") "__init__") fd) :
    FnOk P w K mg base CX0 3 (He.ma K (He.ga K "Plain") "__init__") fd ["self", "chip", "terms"] (spPlainI K) := by
  refine fd_ok F sc_Plain_init (fun vs H Q E h => by obtain ⟨_, _, _, _, _, _, _, _, _, _, _, _, rfl, _⟩ := h; rfl) (fun cdv A outer s H vs Q E hr h => ?_)
  obtain ⟨H0, x, dx, ch, dc, tm, dt, fc, ft, l, B, P, rfl, E, hc, ht, c1, c2, t1, t2, hB, hP, k⟩ := h
  refine ⟨_, pss_cons (ps_if (PW.pt (pw_or (pt_cmpR op_ne (pe_fld (pv 1) rfl) (pe_fld (pv 2) rfl) (nomark _)) (pw_or1 (pt_cmpR op_ne (pe_fld (pv 1) rfl) (pe_fld (pv 2) rfl) (nomark _))))) pss_never pss_nil)
    (pss_cons (ps_fld (pv 0) (pv 1) rfl)
    (pss_cons (ps_fld (pv 0) (pv 2) rfl)
    (pss_one (ps_fld (pv 0) (C8.pe_mk (ok_Book_init T) hr (by decide) rfl (pa_cons (pe_fld (pv 1) rfl) (pa_cons (pe_fld (pv 1) rfl) pa_nil))) rfl)))), ?_⟩
  have hc' := E.at_ _ (List.mem_cons_of_mem _ hc)
  have ht' := E.at_ _ (List.mem_cons_of_mem _ ht)
  refine ⟨_, rfl, _, _, _, _, _, rfl, hc', T.c_Chip, T.nChip_blocks, c1, _, rfl, _, _, _, _, _, rfl, ht', T.c_Terms, T.nTerms_blocks, t1, rfl, _, rfl, ?_⟩
  rw [decide_eq_true rfl]
  refine iteF ?_
  refine ⟨_, rfl, _, _, _, _, _, rfl, hc', T.c_Chip, T.nChip_pages, c2, _, rfl, _, _, _, _, _, rfl, ht', T.c_Terms, T.nTerms_pages, t2, rfl, _, rfl, ?_⟩
  rw [decide_eq_true rfl]
  refine iteF ?_
  refine ⟨_, rfl, _, rfl, E.fld T.c_Store T.nStore_chip rfl fun H1 E1 => ?_⟩
  refine ⟨_, rfl, _, rfl, E1.fld T.c_Store T.nStore_terms (by kernel_rfl) fun H2 E2 => ?_⟩
  have hc2 := E2.at_ _ (List.mem_cons_of_mem _ hc)
  refine ⟨_, rfl, _, _, _, _, _, rfl, hc2, T.c_Chip, T.nChip_blocks, c1, _, rfl, _, _, _, _, _, rfl, hc2, T.c_Chip, T.nChip_pages, c2, fun bk db h1 h2 h3 => ?_⟩
  refine ⟨H0, bk, db, _, B, P, rfl, E2.make h1 h2 h3, hB, hP, fun a12 a13 a14 a15 a16 H3 E3 => ⟨rfl, ?_⟩⟩
  have E4 := (Ext.drop [_, _, _, _, _, _] E3).up [_, _, _, _, _, _]
  refine ⟨_, rfl, E4.fld T.c_Store T.nStore_book (by kernel_rfl) fun H5 E5 => ?_⟩
  exact k bk db a12 a13 a14 a15 a16 H5 E5
theorem sc_Store_init : FnScope ["self", "chip", "terms", "rule"] ["self", "chip", "terms", "rule"] (defScope sStore_init) := ⟨rfl, rfl, rfl, by decide +kernel, rfl, by decide +kernel, by decide +kernel⟩
theorem ok_Store_init (T : Txt K mg) : C8.Mak P w K mg base 5 "Store" (He.ga K "Store") (spStoreI K) [] := by
  refine mak T.k_Store T.g_Store T.dStore_init (ps := ["self", "chip", "terms", "rule"]) (fun _ _ _ _ _ _ us hl => match us, hl with | [_, _, _, _], _ => rfl) sc_Store_init (fun vs H Q E h => by obtain ⟨_, _, _, _, _, _, _, _, _, _, _, _, _, rfl, _⟩ := h; rfl) (fun cdv A outer s H vs Q E hr h => ?_)
  obtain ⟨H0, x, dx, ch, dc, tm, dt, ru, fc, ft, l, B, P, rfl, E, hc, ht, c1, c2, t1, t2, hB, hP, k⟩ := h
  obtain ⟨fd, F⟩ := T.dPlain_init
  obtain ⟨cr, cv⟩ := T.plain
  have bd : Binds K fd ["self", "chip", "terms"] [] := F.bindsN (fun _ _ _ _ _ _ us hl => match us, hl with | [_, _, _], _ => rfl)
  refine ⟨_, pss_cons (ps_expr (pe_cfn (C8.pe_gc (v := .ref (He.ga K "Plain")) rfl ⟨_, T.g_Plain, rfl⟩) cr cv F.kp (ok_Plain_init T F) (hr.mono (by decide)) bd pass0 (pa_cons (pv 0) (pa_cons (pv 1) (pa_cons (pv 2) pa_nil)))))
    (pss_cons (ps_fld (pv 0) (pv 3) rfl)
    (pss_one (ps_fld (pv 0) (pe_lst pa_nil) rfl))), ?_⟩
  refine ⟨rfl, _, rfl, _, rfl, _, rfl, H0, x, dx, ch, dc, tm, dt, fc, ft, l, B, P, rfl, E, hc, ht, c1, c2, t1, t2, hB, hP, fun bk db a12 a13 a14 a15 a16 H1 E1 => ?_⟩
  refine ⟨_, rfl, _, rfl, E1.fld T.c_Store T.nStore_rule rfl fun H2 E2 => ?_⟩
  refine ⟨Nat.zero_le _, fun pp hp => ⟨_, rfl, (E2.alloc1 (o := .lst []) hp).fld T.c_Store T.nStore_papers (by kernel_rfl) fun H3 E3 => ?_⟩⟩
  exact k pp bk db a12 a13 a14 a15 a16 H3 E3
end
end Wp
namespace Wp
open PySem PySem.Spec PyProof.Rows L2
def m0 : MS := { whr := fun _ => none, names := fun _ => none, live := fun _ => 0, filled := fun _ => 0, born := fun _ => 0, stamp := 1, stuff := fun _ => none, tried := fun _ => 0, clr := fun _ => 0 }
def S0 : WS := ⟨m0, [], [], []⟩
def cf0 (as ds : List Addr) (Cr : Addr) (B P share ill : Nat) : Cf := ⟨fun i => as.getD i 0, fun i => ds.getD i 0, Cr, B, P, share, ill⟩
theorem cnt_no {n : Nat} {p : Nat → Bool} (h : ∀ i, p i = false) : cnt n p = 0 := by
  induction n with
  | zero => rfl
  | succ n ih =>
    show cnt n p + _ = 0
    rw [ih, h]
    rfl
theorem sm_no {n : Nat} : sm n (fun _ => 0) = 0 := by
  induction n with
  | zero => rfl
  | succ n ih =>
    show sm n (fun _ => 0) + 0 = 0
    rw [ih]
theorem good0 {B P : Nat} (h : 0 < P) : Good B P m0 where
  pos := h
  nm := fun p n _ e => nomatch e
  wh := fun n p e => nomatch e
  fl := fun b _ => Nat.zero_le _
  lv := fun b _ => (cnt_no fun _ => rfl).symm
  st := fun b i _ _ => ⟨(fun e => nomatch e), fun e => absurd e (Nat.not_lt_zero _)⟩
  ns := fun b i _ _ e => nomatch e
  one := fun b c _ _ e => absurd e (Nat.lt_irrefl _)
  tot := by
    show sm B (fun _ => 0) = _
    rw [sm_no]
    exact (cnt_no fun _ => rfl).symm
theorem fit0 {c : Cf} (h : CfOk c) : Fit c S0 0 where
  good := good0 h.P1
  nf := by
    show 1 + c.ill ≤ cnt c.B _
    have e : cnt c.B (fun b => S0.m.filled b == 0) = c.B := cnt_all fun _ _ => rfl
    rw [e]
    have := h.il
    omega
  nh := by
    show cnt 64 _ ≤ _
    have e : cnt 64 (fun n => (S0.m.whr n).isSome) = 0 := cnt_no fun _ => rfl
    rw [e]
    exact Nat.zero_le _
  bud := ⟨Nat.le_refl _, Nat.le_refl _, by decide, by decide, fun _ => Nat.le_refl _, fun _ => ⟨show (0 : Int) ≤ 0 by decide, show (0 : Int) ≤ 0 + 1 by decide⟩⟩
  lim := by decide
theorem Ext.atI {H0 H : Hp} {l : List (Addr × HO)} (E : Ext H0 H l) (i : Nat) {a : Addr} {o : HO} (h : l[i]? = some (a, o)) : H a = some o := E.at_ (a, o) (List.mem_of_getElem? h)
def ix17 : List Nat := [0, 10, 9, 2, 8, 1, 16, 15, 14, 13, 12, 11, 7, 6, 5, 4, 3]
theorem Ext.newI {H0 H : Hp} {l : List (Addr × HO)} (E : Ext H0 H l) (i : Nat) {a : Addr} {o : HO} (h : l[i]? = some (a, o)) : H0 a = none := E.new (a, o) (List.mem_of_getElem? h)
theorem inj_of {L : List (Addr × HO)} {f : Nat → Addr} (hn : (L.map (·.1)).Nodup) (h : ∀ i, i < 17 → ∃ o, L[ix17.getD i 0]? = some (f i, o)) : ∀ i j, i < 17 → j < 17 → f i = f j → i = j := by
  intro i j hi hj e
  obtain ⟨o1, g1⟩ := h i hi
  obtain ⟨o2, g2⟩ := h j hj
  have m1 : (L.map (·.1))[ix17.getD i 0]? = some (f i) := by rw [List.getElem?_map, g1]; rfl
  have m2 : (L.map (·.1))[ix17.getD j 0]? = some (f j) := by rw [List.getElem?_map, g2]; rfl
  rw [← e, ← m1] at m2
  have g3 := (List.getElem?_inj (List.getElem?_eq_some_iff.mp m1).1 hn).mp m2.symm
  have inv : ∀ i, i < 17 → ([0, 5, 3, 16, 15, 14, 13, 12, 4, 2, 1, 11, 10, 9, 8, 7, 6] : List Nat).getD (ix17.getD i 0) 0 = i := by decide
  rw [← inv i hi, g3, inv j hj]
theorem rep_of {K : PySem.W.Frag} {H0 H : Hp} {l : List (Addr × HO)} {a0 a1 a2 a3 a4 a5 a6 a7 a8 a9 a10 a11 a12 a13 a14 a15 a16 d0 d1 d2 d3 d4 Cr : Addr} {B P share ill : Nat}
    (E : Ext H0 H ((a0, .ins (He.ga K "Store") d0 (fS5 a1 a2 a3 a4 a5)) :: (a5, .lst []) :: (a3, .ins (He.ga K "Book") d3 (fBk B P a12 a13 a14 a15 a16)) :: (a16, .lst (mkL B fun _ => .int 0)) :: (a15, .lst (mkL B fun _ => .int 0)) :: (a14, .lst (mkL B fun _ => .int 0)) :: (a13, .lst (mkL (B * P) fun _ => .non)) :: (a12, .dK []) ::
      (a4, .ins Cr d4 []) :: (a2, .ins (He.ga K "Terms") d2 (fTm B P share ill)) :: (a1, .ins (He.ga K "Chip") d1 (fCh B P a6 a7 a8 a9 a10 a11)) :: (a11, .lst []) :: (a10, .lst (mkL B fun _ => .bl false)) :: (a9, .lst (mkL B fun _ => .int 0)) :: (a8, .lst (mkL B fun _ => .int 0)) :: (a7, .lst (mkL (B * P) fun _ => .non)) :: (a6, .lst (mkL B fun _ => .non)) :: l))
    (hB : 2 ≤ B ∧ B ≤ 16) (hP : 1 ≤ P ∧ P ≤ 16) (hi : ill + 2 ≤ B) (hs : share + 2 = (B - 1 - ill) * P) (hs2 : share ≤ 64) (hr : Cr = He.ga K "Rule" ∨ Cr = He.ga K "Fewest" ∨ Cr = He.ga K "Eldest" ∨ Cr = He.ga K "Worth") :
    ∃ c : Cf, c.A 0 = a0 ∧ c.B = B ∧ c.P = P ∧ c.share = share ∧ c.ill = ill ∧ Rep K c S0 H ∧ ∀ i, i < 17 → H0 (c.A i) = none := by
  refine ⟨cf0 [a0, a1, a2, a3, a4, a5, a6, a7, a8, a9, a10, a11, a12, a13, a14, a15, a16] [d0, d1, d2, d3, d4] Cr B P share ill, rfl, rfl, rfl, rfl, rfl, ⟨⟨fun i j hi hj e => ?_, hB.1, hB.2, hP.1, hP.2, hi, hs, hs2⟩, fun i hi => ?_, fun p t z _ e => (nomatch e), ⟨List.nodup_nil, (fun _ _ e => nomatch e), (fun _ _ e => nomatch e)⟩, hr⟩, fun i hi => ?_⟩
  · refine inj_of E.nd (fun i hi => ?_) i j hi hj e
    match i, hi with
    | 0, _ | 1, _ | 2, _ | 3, _ | 4, _ | 5, _ | 6, _ | 7, _ | 8, _ | 9, _ | 10, _ | 11, _ | 12, _ | 13, _ | 14, _ | 15, _ | 16, _ => exact ⟨_, rfl⟩
    | i + 17, h => exact absurd h (by omega)
  · match i, hi with
    | 0, _ => exact E.atI 0 rfl
    | 1, _ => exact E.atI 10 rfl
    | 2, _ => exact E.atI 9 rfl
    | 3, _ => exact E.atI 2 rfl
    | 4, _ => exact E.atI 8 rfl
    | 5, _ => exact E.atI 1 rfl
    | 6, _ => exact E.atI 16 rfl
    | 7, _ => exact E.atI 15 rfl
    | 8, _ => exact E.atI 14 rfl
    | 9, _ => exact E.atI 13 rfl
    | 10, _ => exact E.atI 12 rfl
    | 11, _ => exact E.atI 11 rfl
    | 12, _ => exact E.atI 7 rfl
    | 13, _ => exact E.atI 6 rfl
    | 14, _ => exact E.atI 5 rfl
    | 15, _ => exact E.atI 4 rfl
    | 16, _ => exact E.atI 3 rfl
    | i + 17, h => exact absurd h (by omega)
  · match i, hi with
    | 0, _ => exact E.newI 0 rfl
    | 1, _ => exact E.newI 10 rfl
    | 2, _ => exact E.newI 9 rfl
    | 3, _ => exact E.newI 2 rfl
    | 4, _ => exact E.newI 8 rfl
    | 5, _ => exact E.newI 1 rfl
    | 6, _ => exact E.newI 16 rfl
    | 7, _ => exact E.newI 15 rfl
    | 8, _ => exact E.newI 14 rfl
    | 9, _ => exact E.newI 13 rfl
    | 10, _ => exact E.newI 12 rfl
    | 11, _ => exact E.newI 11 rfl
    | 12, _ => exact E.newI 7 rfl
    | 13, _ => exact E.newI 6 rfl
    | 14, _ => exact E.newI 5 rfl
    | 15, _ => exact E.newI 4 rfl
    | 16, _ => exact E.newI 3 rfl
    | i + 17, h => exact absurd h (by omega)
end Wp
namespace Wp
open PySem PySem.Spec PyProof.Rows L2
theorem SqL.same {K : PySem.W.Frag} {H H' : Hp} {a : Addr} {xs : List V} (h : SqL K H a xs) (s : Same H H') : SqL K H' a xs :=
  h.elim (fun h => .inl (h.elim (fun h => .inl (s _ _ h)) fun ⟨o, h⟩ => .inr ⟨o, s _ _ h⟩)) fun h => .inr h
def cellA (ns : List Int) (k : Nat) : Int := ns.getD k 0
def spCell (K : PySem.W.Frag) : Sp := fun vs H Q _ => ∃ (a : Addr) (ns : List Int) (k : Nat), vs = [.ref a, .int (k : Nat)] ∧ SqL K H a (ns.map V.int) ∧ Q (.int (cellA ns k)) H
theorem size_math (p k i : Int) (hp : 1 ≤ p) (hp2 : p ≤ 16) (hk : 1 ≤ k) (hk2 : k ≤ 15) (h3 : 3 ≤ k * p) (h66 : k * p ≤ 66) (hi0 : 0 ≤ i) (hi1 : i ≤ 15 - k) :
    ∃ Kc P ill : Nat, p = (P : Int) ∧ k = (Kc : Int) ∧ i = (ill : Int) ∧ (1 ≤ P ∧ P ≤ 16) ∧ 1 ≤ Kc ∧ Kc + ill ≤ 15 ∧ 3 ≤ Kc * P ∧ Kc * P ≤ 66 ∧ k * p - 2 = ((Kc * P - 2 : Nat) : Int) ∧ k + 1 + i = ((Kc + 1 + ill : Nat) : Int) := by
  obtain ⟨P, rfl⟩ := Int.eq_ofNat_of_zero_le (show 0 ≤ p by omega)
  obtain ⟨Kc, rfl⟩ := Int.eq_ofNat_of_zero_le (show 0 ≤ k by omega)
  obtain ⟨ill, rfl⟩ := Int.eq_ofNat_of_zero_le hi0
  have e : (Kc : Int) * (P : Int) = ((Kc * P : Nat) : Int) := rfl
  rw [e] at h3 h66
  refine ⟨Kc, P, ill, rfl, rfl, rfl, ⟨by omega, by omega⟩, by omega, by omega, by omega, by omega, ?_, by omega⟩
  rw [e]
  omega
theorem cl_math (p k : Int) (h1 : 1 ≤ p) (h2 : p ≤ 16) (h3 : 1 ≤ k) (h4 : k ≤ 15) : 1 ≤ (if 66 / p < k then 66 / p else k) ∧ (if 66 / p < k then 66 / p else k) ≤ 15 ∧ (if 66 / p < k then 66 / p else k) * p ≤ 66 := by
  have h5 : 66 / p * p ≤ 66 := Int.ediv_mul_le 66 (by omega)
  have h6 : 1 ≤ 66 / p := by
    refine (Int.le_ediv_iff_mul_le (by omega)).mpr ?_
    omega
  generalize 66 / p = d at h5 h6 ⊢
  split
  · exact ⟨h6, by omega, h5⟩
  · refine ⟨h3, h4, Int.le_trans (Int.mul_le_mul_of_nonneg_right ?_ (by omega)) h5⟩
    omega
def spSize (K : PySem.W.Frag) : Sp := fun vs H Q _ => ∃ (a : Addr) (ns : List Int), vs = [.ref a] ∧ SqL K H a (ns.map V.int) ∧
  ∀ (Kc P ill : Nat) q H', (1 ≤ P ∧ P ≤ 16) → 1 ≤ Kc → Kc + ill ≤ 15 → 3 ≤ Kc * P → Kc * P ≤ 66 → Same H H' → H q = none → H' q = some (.lst [.int (Kc + 1 + ill : Nat), .int (P : Nat), .int (Kc * P - 2 : Nat), .int (ill : Nat)]) → Q (.ref q) H'
section
variable {P : Program} {w : World} {K : PySem.W.Frag} {mg : Str → Option Value} {base : Heap}
theorem sc_law_cell_at : FnScope ["_law_script", "_law_k"] ["_law_script", "_law_k"] (defScope s_law_cell_at) := ⟨rfl, rfl, rfl, by decide +kernel, rfl, by decide +kernel, by decide +kernel⟩
theorem ok_law_cell_at (T : Txt K mg) : C8.Cal P w K mg base 1 "_law_cell_at" (spCell K) [] := by
  refine cal T.g_law_cell_at T.d_law_cell_at (ps := ["_law_script", "_law_k"]) (fun _ _ _ _ _ _ us hl => match us, hl with | [_, _], _ => rfl) sc_law_cell_at (fun vs H Q E h => by obtain ⟨_, _, _, rfl, _⟩ := h; rfl) (fun cdv A outer s H vs Q E hr h => ?_)
  obtain ⟨a, ns, j, rfl, hS, k⟩ := h
  refine ⟨_, pss_cons (ps_if (pt_cmpR op_lt (pv 1) (pe_callB call_len_seq (by rfl) T.z_len PySem.boot_len (pa_cons (pv 0) pa_nil)) (nomark _)) (pss_one (ps_ret (pe_ix ix_list (pv 0) (pv 1) (fun _ _ => rfl)))) pss_nil)
    (pss_one (ps_ret pe_int)), ?_⟩
  refine ⟨_, rfl, _, rfl, _, _, rfl, .inl hS, _, _, rfl, rfl, _, rfl, ite2 (fun hlt => ?_) (fun hge => ?_)⟩
  · have hlt := of_decide_eq_true hlt
    rw [List.length_map] at hlt
    have hj : j < ns.length := by omega
    have e : ns[j]? = some (cellA ns j) := by
      unfold cellA
      rw [List.getD_eq_getElem?_getD, List.getElem?_eq_getElem hj]
      rfl
    exact ⟨_, rfl, _, rfl, _, _, _, _, rfl, rfl, hS, atI_nat (j := j) (by rw [List.getElem?_map, e]; rfl), k⟩
  · have hge : ¬ ((j : Int) < ((ns.map V.int).length : Int)) := fun z => hge (decide_eq_true z)
    rw [List.length_map] at hge
    have e : cellA ns j = 0 := by
      unfold cellA
      rw [List.getD_eq_getElem?_getD, List.getElem?_eq_none (by omega)]
      rfl
    rw [e] at k
    exact k
theorem sc_law_size : FnScope ["_law_script", "_law_pages", "_law_closed", "_law_ill"] ["_law_script"] (defScope s_law_size) := ⟨rfl, rfl, rfl, by decide +kernel, rfl, by decide +kernel, by decide +kernel⟩
theorem ok_law_size (T : Txt K mg) : C8.Cal P w K mg base 2 "_law_size" (spSize K) [] := by
  refine cal T.g_law_size T.d_law_size (ps := ["_law_script"]) (fun _ _ _ _ _ _ us hl => match us, hl with | [_], _ => rfl) sc_law_size (fun vs H Q E h => by obtain ⟨_, _, rfl, _⟩ := h; rfl) (fun cdv A outer s H vs Q E hr h => ?_)
  obtain ⟨a, ns, rfl, hS, k⟩ := h
  refine ⟨_, pss_cons (ps_set (i := 1) sc_law_size.nd rfl (Or.inl rfl) (pe_op op_add pe_int (pe_op op_mod (C8.pe_c (ok_law_cell_at T) hr (by decide) rfl (pa_cons (pv 0) (pa_cons pe_int pa_nil))) pe_int)))
    (pss_cons (ps_set (i := 2) sc_law_size.nd rfl (Or.inl rfl) (pe_op op_add pe_int (pe_op op_mod (C8.pe_c (ok_law_cell_at T) hr (by decide) rfl (pa_cons (pv 0) (pa_cons pe_int pa_nil))) pe_int)))
    (C8.pss_cut (ps_if (pt_cmpR op_eq (pe_op op_mod (C8.pe_c (ok_law_cell_at T) hr (by decide) rfl (pa_cons (pv 0) (pa_cons pe_int pa_nil))) pe_int) pe_int (nomark _))
      (pss_cons (ps_set (i := 1) sc_law_size.nd rfl (Or.inl rfl) (pe_op op_add pe_int (pe_op op_mod (C8.pe_c (ok_law_cell_at T) hr (by decide) rfl (pa_cons (pv 0) (pa_cons pe_int pa_nil))) pe_int)))
      (pss_one (ps_set (i := 2) sc_law_size.nd rfl (Or.inl rfl) (pe_callB (call_min2 rfl) (by rfl) T.z_min (by decide +kernel) (pa_cons (pe_op op_add pe_int (pe_op op_mod (C8.pe_c (ok_law_cell_at T) hr (by decide) rfl (pa_cons (pv 0) (pa_cons pe_int pa_nil))) pe_int)) (pa_cons (pe_op op_fdiv pe_int (pv 1)) pa_nil)))))) pss_nil)
    (C8.pss_cut (ps_if (pt_cmpR op_lt (pe_op op_mul (pv 2) (pv 1)) pe_int (nomark _)) (pss_one (ps_set (i := 2) sc_law_size.nd rfl (Or.inl rfl) pe_int)) pss_nil)
    (pss_cons (ps_set (i := 3) sc_law_size.nd rfl (Or.inl rfl) (pe_callB (call_min2 rfl) (by rfl) T.z_min (by decide +kernel) (pa_cons (pe_op op_mod (C8.pe_c (ok_law_cell_at T) hr (by decide) rfl (pa_cons (pv 0) (pa_cons pe_int pa_nil))) pe_int) (pa_cons (pe_op op_sub pe_int (pv 2)) pa_nil))))
    (pss_one (ps_ret (pe_lst (pa_cons (pe_op op_add (pe_op op_add (pv 2) pe_int) (pv 3)) (pa_cons (pv 1) (pa_cons (pe_op op_sub (pe_op op_mul (pv 2) (pv 1)) pe_int) (pa_cons (pv 3) pa_nil))))))))))), ?_⟩
  refine ⟨_, rfl, a, ns, 0, rfl, hS, _, _, rfl, rfl, (show (0 : Int) < 4 by decide), _, _, rfl, rfl, ?_⟩
  refine ⟨_, rfl, a, ns, 1, rfl, hS, _, _, rfl, rfl, (show (0 : Int) < 4 by decide), _, _, rfl, rfl, ?_⟩
  refine ⟨fun σ H1 => ∃ p k : Int, σ = [some (.ref a), some (.int p), some (.int k), none] ∧ H1 = H ∧ 1 ≤ p ∧ p ≤ 16 ∧ 1 ≤ k ∧ k ≤ 15 ∧ k * p ≤ 66, ?_, ?_⟩
  · refine ⟨_, rfl, a, ns, 2, rfl, hS, _, _, rfl, rfl, (show (0 : Int) < 8 by decide), rfl, _, rfl, ite2 (fun _ => ?_) (fun _ => ?_)⟩
    · refine ⟨_, rfl, a, ns, 0, rfl, hS, _, _, rfl, rfl, (show (0 : Int) < 16 by decide), _, _, rfl, rfl, ?_⟩
      refine ⟨_, rfl, a, ns, 1, rfl, hS, _, _, rfl, rfl, (show (0 : Int) < 15 by decide), _, _, rfl, rfl, _, rfl, _, _, rfl, rfl, ⟨by omega, by omega⟩, _, _, rfl, ?_⟩
      exact ⟨_, _, rfl, rfl, by omega, by omega, cl_math _ _ (by omega) (by omega) (by omega) (by omega)⟩
    · refine ⟨_, _, rfl, rfl, by omega, by omega, by omega, by omega, ?_⟩
      exact Int.le_trans (Int.mul_le_mul (show _ ≤ (4 : Int) by omega) (show _ ≤ (4 : Int) by omega) (by omega) (by decide)) (by decide)
  · rintro σ H1 ⟨p, j, rfl, rfl, h1, h2, h3, h4, h5⟩
    refine ⟨fun σ H2 => ∃ j : Int, σ = [some (.ref a), some (.int p), some (.int j), none] ∧ H2 = H1 ∧ 1 ≤ j ∧ j ≤ 15 ∧ 3 ≤ j * p ∧ j * p ≤ 66, ?_, ?_⟩
    · refine ⟨_, rfl, _, rfl, _, _, rfl, rfl, .inl ⟨by omega, by omega⟩, _, _, rfl, rfl, _, rfl, ite2 (fun hlt => ?_) (fun hge => ?_)⟩
      · have hlt := of_decide_eq_true hlt
        refine ⟨3, rfl, rfl, by decide, by decide, by omega, ?_⟩
        have : 1 * p ≤ j * p := Int.mul_le_mul_of_nonneg_right h3 (by omega)
        omega
      · have hge : ¬ j * p < 3 := fun z => hge (decide_eq_true z)
        exact ⟨j, rfl, rfl, h3, h4, by omega, h5⟩
    · rintro σ H2 ⟨j, rfl, rfl, h3, h4, h6, h5⟩
      refine ⟨_, rfl, a, ns, 3, rfl, hS, _, _, rfl, rfl, (show (0 : Int) < 3 by decide), _, rfl, _, _, rfl, rfl, _, _, rfl, ?_⟩
      have hi : 0 ≤ (if 15 - j < cellA ns 3 % 3 then 15 - j else cellA ns 3 % 3) ∧ (if 15 - j < cellA ns 3 % 3 then 15 - j else cellA ns 3 % 3) ≤ 15 - j := by
        split <;> omega
      generalize (if 15 - j < cellA ns 3 % 3 then 15 - j else cellA ns 3 % 3) = i at hi ⊢
      obtain ⟨Kc, P, ill, rfl, rfl, rfl, f1, f2, f3, f4, f5, f6, f7⟩ := size_math p j i h1 h2 h3 h4 h6 h5 hi.1 hi.2
      refine ⟨_, rfl, _, _, rfl, rfl, _, rfl, _, _, rfl, rfl, _, rfl, _, rfl, _, rfl, _, _, rfl, rfl, .inl ⟨by omega, by omega⟩, _, _, rfl, rfl, _, rfl, (show 4 ≤ sizeLine by decide), fun q hq => ?_⟩
      refine k Kc P ill q _ f1 f2 f3 f4 f5 (same_new hq) hq ?_
      rw [upd_same]
      show some (HO.lst [V.int ((Kc : Int) + 1 + (ill : Int)), V.int (P : Int), V.int ((Kc : Int) * (P : Int) - 2), V.int (ill : Int)]) = _
      rw [f6, f7]
end
end Wp
namespace Wp
open PySem PySem.Spec PyProof.Rows L2
theorem Rep.out {K : PySem.W.Frag} {c : Cf} {S : WS} {H : Hp} (R : Rep K c S H) {a : Addr} {ks ks' : List (Key × V)} (hk : ∀ i, i < 17 → a ≠ c.A i) (hd : H a = some (.dK ks)) : Rep K c S (L2.upd H a (.dK ks')) := by
  refine ⟨R.ok, fun i hi => ?_, fun p t z hp h => ?_, R.dic, R.rl⟩
  · rw [upd_ne (hk i hi).symm]
    exact R.at_ i hi
  · obtain ⟨k, e⟩ := R.tup p t z hp h
    refine ⟨k, ?_⟩
    rw [upd_ne fun q => ?_]
    · exact e
    · rw [q, hd] at e
      cases e
/-- the law's store and what it kept of it -/
structure LI (K : PySem.W.Frag) (c : Cf) (S : WS) (H : Hp) (kA : Addr) (ks : List (Key × V)) (d : Nat) : Prop where
  R : Rep K c S H
  F : Fit c S d
  kH : H kA = some (.dK ks)
  kv : ∀ n : Nat, n < 64 → valV ks (.inl (n : Int)) = (content S.m n).map V.int
  kl : ks.length ≤ d
  kn : ∀ i, i < 17 → kA ≠ c.A i
/-- all but the store's objects and the dict at kA is as it was -/
def Fr2 (c : Cf) (kA : Addr) (H H' : Hp) : Prop := ∀ b o, H b = some o → (∀ i, i < 17 → b ≠ c.A i) → b ≠ kA → H' b = some o
theorem Fr2.refl {c : Cf} {kA : Addr} (H : Hp) : Fr2 c kA H H := fun _ _ h _ _ => h
theorem Fr2.trans {c : Cf} {kA : Addr} {H H1 H2 : Hp} (a : Fr2 c kA H H1) (b : Fr2 c kA H1 H2) : Fr2 c kA H H2 := fun d o h n m => b d o (a d o h n m) n m
theorem Fr2.of {c : Cf} {kA : Addr} {H H1 : Hp} {o : HO} (a : Fr c H H1) : Fr2 c kA H (upd H1 kA o) := fun d u h n m => by
  rw [upd_ne m]
  exact a d u h n
theorem cnt_moreB {n : Nat} {p q : Nat → Bool} {a : Nat} (ha : a < n) (h1 : p a = false) (h2 : q a = true) (h3 : ∀ i, i < n → i ≠ a → q i = p i) : cnt n q = cnt n p + 1 := by
  have e1 : cnt n q = cnt n fun i => decide (i < n) && q i := cnt_congr fun i hi => by rw [decide_eq_true hi]; rfl
  have e2 : cnt n p = cnt n fun i => decide (i < n) && p i := cnt_congr fun i hi => by rw [decide_eq_true hi]; rfl
  rw [e1, e2]
  refine cnt_more ha (by rw [h1, Bool.and_false]) (by rw [h2, decide_eq_true ha]; rfl) fun i hi => ?_
  by_cases e : i < n
  · rw [h3 i e hi]
  · rw [decide_eq_false e, Bool.false_and, Bool.false_and]
theorem nheld_put {S S' : WS} {n : Nat} (hn : n < 64) (h : ∀ m, m < 64 → (S'.m.whr m).isSome = if m = n then true else (S.m.whr m).isSome) : nheld S'.m = if (S.m.whr n).isSome = true then nheld S.m else nheld S.m + 1 := by
  by_cases e : (S.m.whr n).isSome = true
  · rw [if_pos e]
    refine cnt_congr fun i hi => ?_
    rw [h i hi]
    split
    · rename_i q
      rw [q, e]
    · rfl
  · rw [if_neg e]
    refine cnt_moreB (a := n) hn (by simpa using e) (by rw [h n hn, if_pos rfl]) fun i hi hne => ?_
    rw [h i hi, if_neg hne]
theorem nheld_drop {S S' : WS} {n : Nat} (hn : n < 64) (e : (S.m.whr n).isSome = true) (h : ∀ m, m < 64 → (S'.m.whr m).isSome = if m = n then false else (S.m.whr m).isSome) : nheld S'.m + 1 = nheld S.m := by
  refine (cnt_moreB (a := n) hn (by rw [h n hn, if_pos rfl]) e fun i hi hne => ?_).symm
  rw [h i hi, if_neg hne]
def spRule (K : PySem.W.Frag) : Sp := fun vs H Q _ => ∃ (z : Int) (H0 : Hp) (l : List (Addr × HO)), vs = [.int z] ∧ Ext H0 H l ∧
  ∀ Cr x dx H', (Cr = He.ga K "Rule" ∨ Cr = He.ga K "Fewest" ∨ Cr = He.ga K "Eldest" ∨ Cr = He.ga K "Worth") → Ext H0 H' ((x, .ins Cr dx []) :: (dx, .own x) :: l) → Q (.ref x) H'
def spWritten (K : PySem.W.Frag) : Sp := fun vs H Q _ => ∃ (c : Cf) (S : WS) (kA : Addr) (ks : List (Key × V)) (d n : Nat) (z : Int), vs = [.ref (c.A 0), .ref kA, .int n, .int z] ∧ LI K c S H kA ks d ∧ n < 64 ∧ 0 ≤ z ∧ z < 1000000000000000000000000000000 ∧ ((S.m.whr n).isSome = true ∨ nheld S.m < c.share) ∧ d + 21 ≤ 50000 ∧
  ∀ S' ks' H', LI K c S' H' kA ks' (d + 21) → (∀ m, m < 64 → (S'.m.whr m).isSome = if m = n then true else (S.m.whr m).isSome) → Fr2 c kA H H' → Q (.bl true) H'
def spGiven (K : PySem.W.Frag) : Sp := fun vs H Q _ => ∃ (c : Cf) (S : WS) (kA : Addr) (ks : List (Key × V)) (d n : Nat), vs = [.ref (c.A 0), .ref kA, .int n] ∧ LI K c S H kA ks d ∧ n < 64 ∧ (S.m.whr n).isSome = true ∧ d + 21 ≤ 50000 ∧
  ∀ S' ks' H', LI K c S' H' kA ks' (d + 21) → (∀ m, m < 64 → (S'.m.whr m).isSome = if m = n then false else (S.m.whr m).isSome) → Fr2 c kA H H' → Q (.bl true) H'
section
variable {P : Program} {w : World} {K : PySem.W.Frag} {mg : Str → Option Value} {base : Heap}
theorem sc_law_rule : FnScope ["_law_cell"] ["_law_cell"] (defScope s_law_rule) := ⟨rfl, rfl, rfl, by decide +kernel, rfl, by decide +kernel, by decide +kernel⟩
theorem ok_law_rule (T : Txt K mg) : C8.Cal P w K mg base 1 "_law_rule" (spRule K) [] := by
  refine cal T.g_law_rule T.d_law_rule (ps := ["_law_cell"]) (fun _ _ _ _ _ _ us hl => match us, hl with | [_], _ => rfl) sc_law_rule (fun vs H Q E h => by obtain ⟨_, _, _, rfl, _⟩ := h; rfl) (fun cdv A outer s H vs Q E hr h => ?_)
  obtain ⟨z, H0, l, rfl, E, k⟩ := h
  refine ⟨_, pss_cons (ps_if (pt_cmpR op_eq (pe_op op_mod (pv 0) pe_int) pe_int (nomark _)) (pss_one (ps_ret (pe_make00 (T.rule (x := "Fewest") (by decide)) rfl T.g_Fewest))) pss_nil)
    (pss_cons (ps_if (pt_cmpR op_eq (pe_op op_mod (pv 0) pe_int) pe_int (nomark _)) (pss_one (ps_ret (pe_make00 (T.rule (x := "Eldest") (by decide)) rfl T.g_Eldest))) pss_nil)
    (pss_cons (ps_if (pt_cmpR op_eq (pe_op op_mod (pv 0) pe_int) pe_int (nomark _)) (pss_one (ps_ret (pe_make00 (T.rule (x := "Worth") (by decide)) rfl T.g_Worth))) pss_nil)
    (pss_one (ps_ret (pe_make00 (T.rule (x := "Rule") (by decide)) rfl T.g_Rule))))), ?_⟩
  have p4 : (0 : Int) < 4 := by decide
  refine ⟨_, rfl, _, _, rfl, rfl, p4, rfl, _, rfl, ite2 (fun _ => fun x dx h1 h2 h3 => k _ x dx _ (.inr (.inl rfl)) (E.make h1 h2 h3)) (fun _ => ?_)⟩
  refine ⟨_, rfl, _, _, rfl, rfl, p4, rfl, _, rfl, ite2 (fun _ => fun x dx h1 h2 h3 => k _ x dx _ (.inr (.inr (.inl rfl))) (E.make h1 h2 h3)) (fun _ => ?_)⟩
  refine ⟨_, rfl, _, _, rfl, rfl, p4, rfl, _, rfl, ite2 (fun _ => fun x dx h1 h2 h3 => k _ x dx _ (.inr (.inr (.inr rfl))) (E.make h1 h2 h3)) (fun _ => ?_)⟩
  exact fun x dx h1 h2 h3 => k _ x dx _ (.inl rfl) (E.make h1 h2 h3)
theorem sc_law_written : FnScope ["_law_store", "_law_kept", "_law_sheet", "_law_number", "_law_seen"] ["_law_store", "_law_kept", "_law_sheet", "_law_number"] (defScope s_law_written) := ⟨rfl, rfl, rfl, by decide +kernel, rfl, by decide +kernel, by decide +kernel⟩
theorem ok_law_written (T : Txt K mg) : C8.Cal P w K mg base 14 "_law_written" (spWritten K) [] := by
  refine cal T.g_law_written T.d_law_written (ps := ["_law_store", "_law_kept", "_law_sheet", "_law_number"]) (fun _ _ _ _ _ _ us hl => match us, hl with | [_, _, _, _], _ => rfl) sc_law_written (fun vs H Q E h => by obtain ⟨_, _, _, _, _, _, _, rfl, _⟩ := h; rfl) (fun cdv A outer s H vs Q E hr h => ?_)
  obtain ⟨c, S, kA, ks, d, n, z, rfl, I, hn, hz0, hz1, hok, hd, k⟩ := h
  have R := I.R
  refine ⟨_, pss_cons (ps_set (i := 4) sc_law_written.nd rfl (Or.inl rfl) (pe_callB call_len_seq (by rfl) T.z_len PySem.boot_len (pa_cons (pe_fld (pv 0) rfl) pa_nil)))
    (pss_cons (ps_expr (C8.pe_mt (ok_Store_write T) hr (by decide) (pv 0) (pa_cons (pv 2) (pa_cons (pv 3) pa_nil))))
    (pss_cons (ps_dput (hu_of hr) (pv 1) (pv 2) (pv 3) rfl)
    (pss_one (ps_ret (pe_cmpR op_le (pe_callB call_len_seq (by rfl) T.z_len PySem.boot_len (pa_cons (pe_fld (pv 0) rfl) pa_nil)) (pe_op op_add (pv 4) pe_int) (nomark _)))))), ?_⟩
  refine ⟨_, rfl, _, _, _, _, _, rfl, R.at_ 0 (by decide), T.c_Store, T.nStore_papers, lk_Store_papers, _, _, rfl, .inl (SqL.of (R.at_ 5 (by decide))), ?_⟩
  refine ⟨_, rfl, _, _, _, rfl, R.at_ 0 (by decide), ln_Store_write, _, rfl, _, rfl, c, S, n, z, d, rfl, R, I.F, hn, hz0, hz1, hok, fun S1 v H1 R1 D F1 => ?_⟩
  have kH1 := F1 kA _ I.kH I.kn
  have hl : ks.length < sizeLine := Nat.lt_of_le_of_lt I.kl (Nat.lt_of_le_of_lt I.F.lim (by decide))
  refine ⟨_, rfl, _, rfl, _, rfl, kA, _, rfl, DPut.k (k := Sum.inl (n : Int)) kH1 hl, ?_⟩
  have R2 : Rep K c S1 (upd H1 kA (.dK (putK ks (Sum.inl (n : Int)) (.int z)))) := R1.out I.kn kH1
  refine ⟨_, rfl, _, _, _, _, _, rfl, R2.at_ 0 (by decide), T.c_Store, T.nStore_papers, lk_Store_papers, _, _, rfl, .inl (SqL.of (R2.at_ 5 (by decide))), _, rfl, _, _, rfl, rfl, _, _, rfl, rfl, ?_⟩
  have hp := D.pap
  show Q (.bl (decide ((S1.papers.length : Int) ≤ (S.papers.length : Int) + 1))) _
  rw [decide_eq_true (show (S1.papers.length : Int) ≤ (S.papers.length : Int) + 1 by omega)]
  refine k S1 (putK ks (Sum.inl (n : Int)) (.int z)) _ ⟨R2, ⟨D.good, D.nf, ?_, D.bud, hd⟩, upd_same, fun m hm => ?_, ?_, I.kn⟩ (fun m hm => by rw [D.hold m hm]; rfl) (Fr2.of F1)
  · have h1 := nheld_put (S := S) (S' := S1) hn (fun m hm => by rw [D.hold m hm]; rfl)
    have h2 := I.F.nh
    rw [h1]
    split
    · exact h2
    · rename_i q
      have := hok.resolve_left q
      omega
  · rw [valV_put, D.con m hm]
    by_cases e : m = n
    · rw [if_pos (by rw [e]), if_pos e]
      rfl
    · rw [if_neg fun q => e (nat_inl q), if_neg e]
      exact I.kv m hm
  · have := length_putK ks (Sum.inl (n : Int)) (.int z)
    have := I.kl
    omega
theorem sc_law_given_up : FnScope ["_law_store", "_law_kept", "_law_sheet", "_law_seen", "_law_count"] ["_law_store", "_law_kept", "_law_sheet"] (defScope s_law_given_up) := ⟨rfl, rfl, rfl, by decide +kernel, rfl, by decide +kernel, by decide +kernel⟩
theorem ok_law_given_up (T : Txt K mg) : C8.Cal P w K mg base 14 "_law_given_up" (spGiven K) [] := by
  refine cal T.g_law_given_up T.d_law_given_up (ps := ["_law_store", "_law_kept", "_law_sheet"]) (fun _ _ _ _ _ _ us hl => match us, hl with | [_, _, _], _ => rfl) sc_law_given_up (fun vs H Q E h => by obtain ⟨_, _, _, _, _, _, rfl, _⟩ := h; rfl) (fun cdv A outer s H vs Q E hr h => ?_)
  obtain ⟨c, S, kA, ks, d, n, rfl, I, hn, hw, hd, k⟩ := h
  have R := I.R
  refine ⟨_, pss_cons (ps_set (i := 3) sc_law_given_up.nd rfl (Or.inl rfl) (pe_callB call_len_seq (by rfl) T.z_len PySem.boot_len (pa_cons (pe_fld (pv 0) rfl) pa_nil)))
    (pss_cons (ps_set (i := 4) sc_law_given_up.nd rfl (Or.inl rfl) (C8.pe_mt (ok_Store_give_up T) hr (by decide) (pv 0) (pa_cons (pe_lst (pa_cons (pv 2) pa_nil)) pa_nil)))
    (pss_cons (ps_expr (pe_dpop1 (pv 1) (pv 2) ⟨rfl, rfl, rfl, rfl⟩))
    (pss_one (ps_ret (pe_and (pe_cmpR op_eq (pv 4) pe_int (nomark _)) (pe_one (pe_cmpR op_le (pe_callB call_len_seq (by rfl) T.z_len PySem.boot_len (pa_cons (pe_fld (pv 0) rfl) pa_nil)) (pe_op op_add (pv 3) pe_int) (nomark _)))))))), ?_⟩
  refine ⟨_, rfl, _, _, _, _, _, rfl, R.at_ 0 (by decide), T.c_Store, T.nStore_papers, lk_Store_papers, _, _, rfl, .inl (SqL.of (R.at_ 5 (by decide))), ?_⟩
  refine ⟨_, rfl, _, _, _, rfl, R.at_ 0 (by decide), ln_Store_give_up, _, rfl, (show 1 ≤ sizeLine by decide), fun q hq => ?_⟩
  have s1 : Same H (upd H q (.lst [.int (n : Nat)])) := same_new hq
  refine ⟨c, S, n, q, d, rfl, R.same s1, upd_same, I.F, hn, hw, fun S1 H1 R1 D F1 => ?_⟩
  have F01 : Fr c H H1 := Fr.trans (Fr.same s1) F1
  have kH1 := F01 kA _ I.kH I.kn
  obtain ⟨p, hp⟩ := Option.isSome_iff_exists.mp hw
  obtain ⟨t, z, _, hz⟩ := content_some I.F.good hp
  refine ⟨_, rfl, kA, rfl, .inl ⟨_, .inl kH1⟩, _, rfl, ks, Sum.inl (n : Int), .int z, kH1, rfl, ?_, ?_⟩
  · rw [I.kv n hn, hz]
    rfl
  have R2 : Rep K c S1 (upd H1 kA (.dK (dropK ks (Sum.inl (n : Int))))) := R1.out I.kn kH1
  refine ⟨_, rfl, rfl, true, by rfl, iteT ?_⟩
  refine ⟨_, rfl, _, _, _, _, _, rfl, R2.at_ 0 (by decide), T.c_Store, T.nStore_papers, lk_Store_papers, _, _, rfl, .inl (SqL.of (R2.at_ 5 (by decide))), _, rfl, _, _, rfl, rfl, _, _, rfl, rfl, ?_⟩
  have hp := D.pap
  show Q (.bl (decide ((S1.papers.length : Int) ≤ (S.papers.length : Int) + 1))) _
  rw [decide_eq_true (show (S1.papers.length : Int) ≤ (S.papers.length : Int) + 1 by omega)]
  refine k S1 (dropK ks (Sum.inl (n : Int))) _ ⟨R2, ⟨D.good, D.nf, ?_, D.bud, hd⟩, upd_same, fun m hm => ?_, ?_, I.kn⟩ (fun m hm => by rw [D.hold m hm]; rfl) (Fr2.of F01)
  · have h1 := nheld_drop (S := S) (S' := S1) hn hw (fun m hm => by rw [D.hold m hm]; rfl)
    have h2 := I.F.nh
    omega
  · rw [valV_drop, D.con m hm]
    by_cases e : m = n
    · rw [if_pos (by rw [e]), if_pos e]
      rfl
    · rw [if_neg fun q => e (nat_inl q), if_neg e]
      exact I.kv m hm
  · have := List.length_filter_le (fun kv : Key × V => decide (kv.1 ≠ Sum.inl (n : Int))) ks
    have := I.kl
    show (List.filter _ ks).length ≤ _
    omega
end
end Wp
namespace Wp
open PySem PySem.Spec PyProof.Rows L2
def hN (c5 : Int) (i : Nat) : Nat := ((c5 + 5 * (i : Int)) % 64).toNat
def hL (c5 : Int) (n : Nat) : List Nat := (List.range n).map (hN c5)
theorem hN_eq (c5 : Int) (i : Nat) : (c5 + 5 * (i : Int)) % 64 = ((hN c5 i : Nat) : Int) := by
  unfold hN
  omega
theorem hN_lt (c5 : Int) (i : Nat) : hN c5 i < 64 := by
  have := hN_eq c5 i
  omega
theorem hN_inj {c5 : Int} {i j : Nat} (hi : i < 64) (hj : j < 64) (h : hN c5 i = hN c5 j) : i = j := by
  have h1 := hN_eq c5 i
  have h2 := hN_eq c5 j
  omega
theorem hL_len {c5 : Int} {n : Nat} : (hL c5 n).length = n := by
  unfold hL
  rw [List.length_map, List.length_range]
theorem hL_get {c5 : Int} {n i : Nat} (h : i < n) : (hL c5 n)[i]? = some (hN c5 i) := by
  unfold hL
  rw [List.getElem?_map, List.getElem?_range h]
  rfl
theorem hL_succ {c5 : Int} {n : Nat} : hL c5 (n + 1) = hL c5 n ++ [hN c5 n] := by
  unfold hL
  rw [List.range_succ, List.map_append]
  rfl
theorem hL_mem {c5 : Int} {n m : Nat} : m ∈ hL c5 n ↔ ∃ i, i < n ∧ hN c5 i = m := by
  unfold hL
  rw [List.mem_map]
  constructor
  · rintro ⟨i, h, e⟩
    exact ⟨i, List.mem_range.mp h, e⟩
  · rintro ⟨i, h, e⟩
    exact ⟨i, List.mem_range.mpr h, e⟩
theorem hL_lt {c5 : Int} {n m : Nat} (h : m ∈ hL c5 n) : m < 64 := by
  obtain ⟨i, _, rfl⟩ := hL_mem.mp h
  exact hN_lt c5 i
theorem hL_nodup {c5 : Int} : ∀ {n : Nat}, n ≤ 64 → (hL c5 n).Nodup
  | 0, _ => List.nodup_nil
  | n + 1, h => by
    rw [hL_succ]
    refine List.nodup_append.mpr ⟨hL_nodup (by omega), List.nodup_cons.mpr ⟨by simp, List.nodup_nil⟩, fun a ha b hb e => ?_⟩
    rw [List.mem_singleton] at hb
    obtain ⟨i, hi, e2⟩ := hL_mem.mp ha
    rw [e, hb] at e2
    have := hN_inj (by omega) (by omega) e2
    omega
/-- what is held is the list -/
def Holds (S : WS) (l : List Nat) : Prop := ∀ m, m < 64 → (S.m.whr m).isSome = decide (m ∈ l)
theorem Holds.nheld {S : WS} {l : List Nat} (h : Holds S l) (hn : l.Nodup) (hl : ∀ x ∈ l, x < 64) : nheld S.m = l.length := by
  rw [nodup_cnt l 64 hn hl]
  exact cnt_congr fun i hi => h i hi
theorem Holds.put {S S' : WS} {l : List Nat} {n : Nat} (h : Holds S l) (hp : ∀ m, m < 64 → (S'.m.whr m).isSome = if m = n then true else (S.m.whr m).isSome) : Holds S' (l ++ [n]) := fun m hm => by
  rw [hp m hm, h m hm]
  by_cases e : m = n
  · simp [e]
  · simp [e]
theorem Holds.same {S S' : WS} {l : List Nat} {n : Nat} (h : Holds S l) (hn : n ∈ l) (hp : ∀ m, m < 64 → (S'.m.whr m).isSome = if m = n then true else (S.m.whr m).isSome) : Holds S' l := fun m hm => by
  rw [hp m hm, h m hm]
  by_cases e : m = n
  · simp [e, hn]
  · simp [e]
theorem Holds.back {S S1 S2 : WS} {l : List Nat} {n : Nat} (h : Holds S l) (hn : n ∈ l) (h1 : ∀ m, m < 64 → (S1.m.whr m).isSome = if m = n then false else (S.m.whr m).isSome) (h2 : ∀ m, m < 64 → (S2.m.whr m).isSome = if m = n then true else (S1.m.whr m).isSome) : Holds S2 l := fun m hm => by
  rw [h2 m hm, h1 m hm, h m hm]
  by_cases e : m = n
  · simp [e, hn]
  · simp [e]
/-- where the law's things lie -/
structure Pl (c : Cf) (H0 : Hp) (kA hA : Addr) : Prop where
  na : ∀ i, i < 17 → H0 (c.A i) = none
  nk : H0 kA = none
  hk : hA ≠ kA
  ha : ∀ i, i < 17 → hA ≠ c.A i
structure LS (K : PySem.W.Frag) (c : Cf) (H0 : Hp) (kA hA : Addr) (hs : List Nat) (S : WS) (H : Hp) (d : Nat) : Prop where
  I : ∃ ks, LI K c S H kA ks d
  old : Same H0 H
  hd : H hA = some (.lst (intsN hs))
theorem LS.step {K : PySem.W.Frag} {c : Cf} {H0 : Hp} {kA hA : Addr} {hs : List Nat} {S S' : WS} {H H' : Hp} {d d' : Nat} {ks' : List (Key × V)} (L : LS K c H0 kA hA hs S H d) (p : Pl c H0 kA hA) (I : LI K c S' H' kA ks' d') (f : Fr2 c kA H H') : LS K c H0 kA hA hs S' H' d' := by
  refine ⟨⟨_, I⟩, fun b o e => f b o (L.old b o e) (fun i hi z => ?_) (fun z => ?_), f _ _ L.hd p.ha p.hk⟩
  · rw [z, p.na i hi] at e
    cases e
  · rw [z, p.nk] at e
    cases e
end Wp
namespace Wp
open PySem PySem.Spec PyProof.Rows L2
def spLaw (K : PySem.W.Frag) : Sp := fun vs H Q _ => ∃ (a : Addr) (ns : List Int), vs = [.ref a] ∧ ns.length ≤ 63 ∧ SqL K H a (ns.map V.int) ∧ ∀ H', Q (.bl true) H'
section
variable {P : Program} {w : World} {K : PySem.W.Frag} {mg : Str → Option Value} {base : Heap}
theorem sc_law : FnScope ["_law_script", "_law_blocks", "_law_pages", "_law_share", "_law_ill", "_law_store", "_law_kept", "_law_k", "_law_held", "_law_sheet", "_law_cell"] ["_law_script"] (defScope slaw) := ⟨rfl, rfl, rfl, by decide +kernel, rfl, by decide +kernel, by decide +kernel⟩
theorem law_fn (T : Txt K mg) {fd : FuncData} (F : FunD K "law" "law" (defArgs slaw) (defBody slaw) (defScope slaw) [] [] (He.ga K "law") fd) : FnOk P w K mg base CX0 17 (He.ga K "law") fd ["_law_script"] (spLaw K) := by
  refine fd_ok F sc_law (fun vs H Q E h => by obtain ⟨_, _, rfl, _⟩ := h; rfl) (fun cdv A outer s H vs Q E hr h => ?_)
  obtain ⟨a, ns, rfl, hlen, hS, k⟩ := h
  refine ⟨_, pss_cons (ps_asg (C8.pe_c (ok_law_size T) hr (by decide) rfl (pa_cons (pv 0) pa_nil)) (pg_lst rfl (pgs_cons (pg_name (i := 1) sc_law.nd rfl (Or.inl rfl)) (pgs_cons (pg_name (i := 2) sc_law.nd rfl (Or.inl rfl)) (pgs_cons (pg_name (i := 3) sc_law.nd rfl (Or.inl rfl)) (pgs_cons (pg_name (i := 4) sc_law.nd rfl (Or.inl rfl)) pgs_nil))))))
    (pss_cons (ps_set (i := 5) sc_law.nd rfl (Or.inl rfl) (C8.pe_mk (ok_Store_init T) hr (by decide) rfl
      (pa_cons (C8.pe_mk (ok_Chip_init T) hr (by decide) rfl (pa_cons (pv 1) (pa_cons (pv 2) pa_nil)))
      (pa_cons (C8.pe_mk (ok_Terms_init T) hr (by decide) rfl (pa_cons (pv 1) (pa_cons (pv 2) (pa_cons pe_int (pa_cons (pv 3) (pa_cons (pv 4) pa_nil))))))
      (pa_cons (C8.pe_c (ok_law_rule T) hr (by decide) rfl (pa_cons (C8.pe_c (ok_law_cell_at T) hr (by decide) rfl (pa_cons (pv 0) (pa_cons pe_int pa_nil))) pa_nil)) pa_nil)))))
    (pss_cons (ps_set (i := 6) sc_law.nd rfl (Or.inl rfl) pe_dnewK)
    (pss_cons (ps_setLc (i := 8) (own := [("_law_k", 7)]) (g := gName 7) rfl sc_law.nd rfl rfl (by rfl) (pi_range1 (by rfl) T.z_range (pa_cons (pe_callB (call_min2 rfl) (by rfl) T.z_min (by decide +kernel) (pa_cons (pv 3) (pa_cons pe_int pa_nil))) pa_nil))
      (blkOk_by (N := ["_law_script", "_law_blocks", "_law_pages", "_law_share", "_law_ill", "_law_store", "_law_kept", "_law_k", "_law_held", "_law_sheet", "_law_cell"]) (sc := defScope slaw) (by decide +kernel))
      (fun _ _ _ _ _ => pg_name (i := 7) sc_law.nd rfl (Or.inl rfl)) (fun _ _ _ _ _ => pts_nil)
      (fun _ _ _ _ _ => pe_op op_mod (pe_op op_add (C8.pe_c (ok_law_cell_at T) hr (by decide) rfl (pa_cons (pv 0) (pa_cons pe_int pa_nil))) (pe_op op_mul pe_int (pv 7))) pe_int))
    (pss_cons (ps_for PassesOwn.never rfl (pi_list (pv 8)) (pg_name (i := 9) sc_law.nd rfl (Or.inl rfl))
      (pss_one (ps_if (pt_not (pt_val (C8.pe_c (ok_law_written T) hr (by decide) rfl (pa_cons (pv 5) (pa_cons (pv 6) (pa_cons (pv 9) (pa_cons (pe_op op_mul (pv 9) (pe_op op_pow pe_int pe_int)) pa_nil))))))) (pss_one (ps_ret pe_bl)) pss_nil)))
    (pss_cons (ps_if (PW.pt (pw_or (pt_not (pt_val (C8.pe_c (ok_law_given_up T) hr (by decide) rfl (pa_cons (pv 5) (pa_cons (pv 6) (pa_cons (pe_ix ix_list (pv 8) pe_int (fun _ _ => rfl)) pa_nil))))))
        (pw_or1 (pt_not (pt_val (C8.pe_c (ok_law_written T) hr (by decide) rfl (pa_cons (pv 5) (pa_cons (pv 6) (pa_cons (pe_ix ix_list (pv 8) pe_int (fun _ _ => rfl)) (pa_cons pe_int pa_nil)))))))))) (pss_one (ps_ret pe_bl)) pss_nil)
    (pss_cons (ps_for PassesOwn.never rfl (pi_range2 (by rfl) T.z_range (pa_cons pe_int (pa_cons (pe_callB (call_min2 rfl) (by rfl) T.z_min (by decide +kernel) (pa_cons (pe_callB call_len_seq (by rfl) T.z_len PySem.boot_len (pa_cons (pv 0) pa_nil)) (pa_cons pe_int pa_nil))) pa_nil))) (pg_name (i := 7) sc_law.nd rfl (Or.inl rfl))
      (pss_cons (ps_set (i := 10) sc_law.nd rfl (Or.inl rfl) (pe_ix ix_list (pv 0) (pv 7) (fun _ _ => rfl)))
      (pss_cons (ps_set (i := 9) sc_law.nd rfl (Or.inl rfl) (pe_ix ix_list (pv 8) (pe_op op_mod (pe_op op_fdiv (pv 10) pe_int) (pe_callB call_len_seq (by rfl) T.z_len PySem.boot_len (pa_cons (pv 8) pa_nil))) (fun _ _ => rfl)))
      (C8.pss_cut (ps_if (PW.pt (pw_and (pt_cmpR op_eq (pe_op op_mod (pv 10) pe_int) pe_int (nomark _)) (pw_and1 (pt_not (pt_val (C8.pe_c (ok_law_given_up T) hr (by decide) rfl (pa_cons (pv 5) (pa_cons (pv 6) (pa_cons (pv 9) pa_nil))))))))) (pss_one (ps_ret pe_bl)) pss_nil)
      (pss_one (ps_if (pt_not (pt_val (C8.pe_c (ok_law_written T) hr (by decide) rfl (pa_cons (pv 5) (pa_cons (pv 6) (pa_cons (pv 9) (pa_cons (pe_op op_mod (pe_op op_add (pe_op op_mul (pv 10) pe_int) (pv 7)) (pe_op op_pow pe_int pe_int)) pa_nil))))))) (pss_one (ps_ret pe_bl)) pss_nil))))))
    (pss_cons (ps_for PassesOwn.never rfl (pi_range1 (by rfl) T.z_range (pa_cons pe_int pa_nil)) (pg_name (i := 9) sc_law.nd rfl (Or.inl rfl))
      (pss_one (ps_if (pt_cmpR op_ne (C8.pe_mt (ok_Store_read T) hr (by decide) (pv 5) (pa_cons (pv 9) pa_nil)) (pe_dget1 (hu_of hr) (pv 6) (pv 9) ⟨rfl, rfl, rfl, rfl⟩) (nomark _)) (pss_one (ps_ret pe_bl)) pss_nil)))
    (pss_cons (ps_if (pt_cmpR op_ne (pe_callB call_len_seq (by rfl) T.z_len PySem.boot_len (pa_cons (C8.pe_mt0 (ok_Store_held T) hr (by decide) (pv 5)) pa_nil)) (pe_callB call_len_seq (by rfl) T.z_len PySem.boot_len (pa_cons (pv 8) pa_nil)) (nomark _)) (pss_one (ps_ret pe_bl)) pss_nil)
    (pss_one (ps_ret (pe_or (pe_cmpR op_gt (pv 3) pe_int (nomark _)) (pe_one (C8.pe_c (ok_law_full T) hr (by decide) rfl (pa_cons (pv 5) (pa_cons (pe_op op_mod (pe_op op_add (pe_ix ix_list (pv 8) (pe_un un_neg pe_int) (fun _ _ => rfl)) pe_int) pe_int) pa_nil))))))))))))))), ?_⟩
  -- the size
  refine ⟨_, rfl, a, ns, rfl, hS, fun Kc P ill q H1 hP hK hKi h3 h66 s1 hq hq1 => ?_⟩
  have hB1 : 2 ≤ Kc + 1 + ill ∧ Kc + 1 + ill ≤ 16 := ⟨by omega, by omega⟩
  have hsh : Kc * P - 2 + 2 = (Kc + 1 + ill - 1 - ill) * P := by
    rw [show Kc + 1 + ill - 1 - ill = Kc by omega]
    omega
  have hil : ill + 2 ≤ Kc + 1 + ill := by omega
  have hs1 : 1 ≤ Kc * P - 2 := by omega
  have hs2 : Kc * P - 2 ≤ 64 := by omega
  generalize Kc + 1 + ill = B at hB1 hsh hil hq1
  generalize Kc * P - 2 = share at hsh hs1 hs2 hq1
  refine ⟨q, _, rfl, SqL.of hq1, rfl, _, _, rfl, _, _, rfl, _, _, rfl, _, _, rfl, rfl, ?_⟩
  -- the store
  have hS1 := s1.seq hS
  refine ⟨_, rfl, _, rfl, fun x1 d1 g1 g2 g3 => ⟨H1, x1, d1, _, B, P, rfl, Ext.refl.make g1 g2 g3, hB1, hP, fun a6 a7 a8 a9 a10 a11 H2 E2 => ⟨rfl, ?_⟩⟩⟩
  refine ⟨_, rfl, _, rfl, _, rfl, _, rfl, fun x2 d2 g1 g2 g3 => ⟨H1, x2, d2, _, B, P, share, ill, rfl, E2.make g1 g2 g3, hB1, hP, hil, hs1, hsh, fun H3 E3 => ⟨rfl, ?_⟩⟩⟩
  refine ⟨_, rfl, a, ns, 4, rfl, E3.old.seq hS1, _, H1, _, rfl, E3, fun Cr x4 d4 H4 hCr E4 => ?_⟩
  refine fun x0 d0 g1 g2 g3 => ⟨H1, x0, d0, x1, d1, x2, d2, x4, _, _, _, B, P, rfl, E4.make g1 g2 g3, List.mem_of_getElem? (i := 5) rfl, List.mem_of_getElem? (i := 3) rfl, (by kernel_rfl), (by kernel_rfl), (by kernel_rfl), (by kernel_rfl), hB1.2, hP.2, fun pp bk db a12 a13 a14 a15 a16 H5 E5 => ⟨rfl, ?_⟩⟩
  have E6 := ((E5.drop [_, _, _, _, _, _, _, _]).drop [_, _, _, _, _, _, _, _, _]).drop [_, _, _, _, _, _, _, _, _, _]
  obtain ⟨c, c0, cB, cP, cs, ci, R5, na⟩ := rep_of E6 hB1 hP hil hsh hs2 hCr
  subst c0
  have hS5 := E6.old.seq hS1
  -- what is kept
  refine fun kA hkA => ?_
  have s6 : Same H5 (upd H5 kA (.dK [])) := same_new hkA
  have R6 := R5.same s6
  have kn := R5.new hkA
  have hS6 := s6.seq hS5
  have k6 : (upd H5 kA (.dK [])) kA = some (.dK []) := upd_same
  generalize upd H5 kA (.dK []) = H6 at s6 R6 hS6 k6
  -- what is held
  refine ⟨_, rfl, _, _, rfl, (share : Int), ?_, by omega, by omega, fun hA hhA => ?_⟩
  · rw [if_neg (by omega)]
  have nA := R6.new hhA
  have hkn : hA ≠ kA := (ne_of_none k6 hhA).symm
  refine lc_range (lo := 0) (n := _) (fun i H7 => H7 hA = some (.lst (intsN (hL (cellA ns 5) i))) ∧ Same H6 H7) ⟨upd_same, same_new hhA⟩ (fun i H7 hi hI => ?_) (fun H7 hI => ?_)
  · obtain ⟨h1, s7⟩ := hI
    refine ⟨rfl, _, rfl, a, ns, 5, rfl, s7.seq hS6, _, rfl, _, _, rfl, rfl, .inl ⟨by decide, by decide⟩, _, _, rfl, rfl, _, _, rfl, rfl, (show (0 : Int) < 64 by decide), _, h1, ?_, ?_, fun b o e => by rw [upd_ne (ne_of_none e hhA)]; exact s7 b o e⟩
    · unfold intsN
      rw [List.length_map, hL_len]
      refine Nat.lt_of_lt_of_le (show i < 64 by omega) (by decide)
    · rw [upd_same, hL_succ]
      unfold intsN
      rw [List.map_append]
      show some (HO.lst (_ ++ [V.int ((cellA ns 5 + 5 * (0 + (i : Int))) % 64)])) = _
      rw [Int.zero_add, hN_eq]
      rfl
  obtain ⟨h7, s7⟩ := hI
  have R7 := R6.same s7
  have pl : Pl c H1 kA hA := ⟨na, E6.old.free hkA, hkn, nA⟩
  rw [Int.toNat_natCast] at h7
  have L7 : LS K c H1 kA hA (hL (cellA ns 5) share) S0 H7 0 := ⟨⟨[], R7, fit0 R7.ok, s7 _ _ k6, fun n _ => rfl, Nat.le_refl _, kn⟩, (E6.old.trans s6).trans s7, h7⟩
  have hnd : (hL (cellA ns 5) share).Nodup := hL_nodup hs2
  have hlt : ∀ m ∈ hL (cellA ns 5) share, m < 64 := fun m => hL_lt
  have hgi : ∀ {i}, i < share → (intsN (hL (cellA ns 5) share))[i]? = some (.int (hN (cellA ns 5) i : Nat)) := fun {i} h => by
    unfold intsN
    rw [List.getElem?_map, hL_get h]
    rfl
  have hlen2 : (intsN (hL (cellA ns 5) share)).length = share := by
    unfold intsN
    rw [List.length_map, hL_len]
  -- every sheet of the list is written
  refine ⟨_, rfl, hA, rfl, ⟨_, SqL.of h7⟩, for_list (K := K) (a := hA) (xs := intsN (hL (cellA ns 5) share)) (fun i σ H8 => ∃ (y : Option V) (S : WS), σ = [some (.ref a), some (.int (B : Nat)), some (.int (P : Nat)), some (.int (share : Nat)), some (.int (ill : Nat)), some (.ref (c.A 0)), some (.ref kA), none, some (.ref hA), y, none] ∧
      LS K c H1 kA hA (hL (cellA ns 5) share) S H8 (21 * i) ∧ Holds S (hL (cellA ns 5) i))
    ⟨none, S0, rfl, L7, fun m _ => rfl⟩ (fun i σ H8 _ ⟨_, _, _, L, _⟩ => SqL.of L.hd) ?_ ?_⟩
  · rintro i x σ H8 hi0 ⟨y, S, rfl, L, hO⟩
    have hi : i < share := by
      have := (List.getElem?_eq_some_iff.mp hi0).1
      rw [hlen2] at this
      exact this
    obtain rfl : x = .int (hN (cellA ns 5) i : Nat) := Option.some.inj (hi0.symm.trans (hgi hi))
    obtain ⟨ks, I⟩ := L.I
    have hn := hN_lt (cellA ns 5) i
    have hz : 0 ≤ ((hN (cellA ns 5) i : Nat) : Int) * 10 ^ (28 : Int).toNat ∧ ((hN (cellA ns 5) i : Nat) : Int) * 10 ^ (28 : Int).toNat < 1000000000000000000000000000000 := by
      have e28 : (10 : Int) ^ (28 : Int).toNat = 10000000000000000000000000000 := by decide
      rw [e28]
      omega
    have hnh : nheld S.m = i := by
      rw [hO.nheld (hL_nodup (by omega)) (fun m => hL_lt), hL_len]
    refine ⟨_, rfl, _, rfl, _, rfl, _, rfl, 10, 28, rfl, rfl, ⟨by decide, by decide, by decide⟩, _, _, rfl, rfl, .inl ⟨by omega, by omega⟩, c, S, kA, ks, _, _, _, rfl, I, hn, hz.1, hz.2, .inr (by rw [hnh, cs]; exact hi), by omega, fun S2 ks2 H9 I2 ho2 f2 => ?_⟩
    refine ⟨true, rfl, iteF ?_⟩
    refine ⟨_, S2, rfl, L.step pl (d' := 21 * (i + 1)) I2 f2, ?_⟩
    rw [hL_succ]
    exact hO.put ho2
  rintro σ H8 ⟨y, S, rfl, L, hO⟩
  rw [hlen2] at L hO
  obtain ⟨ks, I⟩ := L.I
  have h0 : hN (cellA ns 5) 0 ∈ hL (cellA ns 5) share := hL_mem.mpr ⟨0, hs1, rfl⟩
  have hn0 := hN_lt (cellA ns 5) 0
  have hw0 : (S.m.whr (hN (cellA ns 5) 0)).isSome = true := by rw [hO _ hn0, decide_eq_true h0]
  -- the first is given up and written again
  refine ⟨_, rfl, _, rfl, _, rfl, _, _, 0, _, rfl, rfl, SqL.of L.hd, atI_nat (j := 0) (hgi hs1), c, S, kA, ks, _, _, rfl, I, hn0, hw0, by omega, fun S2 ks2 H9 I2 ho2 f2 => ?_⟩
  have L2 := L.step pl I2 f2
  have hnh : nheld S.m = share := by
    rw [hO.nheld hnd hlt, hL_len]
  have hnh2 := nheld_drop hn0 hw0 ho2
  refine ⟨true, rfl, iteF ?_⟩
  refine ⟨_, rfl, _, rfl, _, rfl, _, _, 0, _, rfl, rfl, SqL.of L2.hd, atI_nat (j := 0) (hgi hs1), c, S2, kA, ks2, _, _, _, rfl, I2, hn0, by decide, by decide, .inr (by rw [cs]; omega), by omega, fun S3 ks3 H10 I3 ho3 f3 => ?_⟩
  have L3 := L2.step pl I3 f3
  refine ⟨true, rfl, iteF ?_⟩
  have hO3 : Holds S3 (hL (cellA ns 5) share) := hO.back h0 ho2 ho3
  have hb3 : 21 * share + 21 + 21 ≤ 1400 := by omega
  generalize 21 * share + 21 + 21 = d3 at L3 hb3
  -- the script's asks
  have hln : ((ns.map V.int).length : Int) = (ns.length : Int) := by rw [List.length_map]
  refine ⟨_, rfl, _, _, rfl, .inl (L3.old.seq hS1), _, _, rfl, _, _, rfl, ⟨by decide, by decide, ?_, ?_⟩, ?_⟩
  · rw [hln]
    split <;> omega
  · rw [hln]
    split <;> omega
  refine for_range (lo := 6) (n := _) (fun i σ H11 => ∃ (y7 y9 y10 : Option V) (S : WS) (d : Nat), σ = [some (.ref a), some (.int (B : Nat)), some (.int (P : Nat)), some (.int (share : Nat)), some (.int (ill : Nat)), some (.ref (c.A 0)), some (.ref kA), y7, some (.ref hA), y9, y10] ∧
      LS K c H1 kA hA (hL (cellA ns 5) share) S H11 d ∧ Holds S (hL (cellA ns 5) share) ∧ d ≤ 1400 + 42 * i)
    ⟨none, y, none, S3, d3, rfl, L3, hO3, by omega⟩ (fun i σ H11 hi hI => ?_) (fun σ H11 hI => ?_)
  · obtain ⟨y7, y9, y10, S, d, rfl, L, hO, hd⟩ := hI
    have hi2 : 6 + i < ns.length ∧ i < 32 := by
      rw [hln] at hi
      split at hi <;> omega
    have ecell : ns[6 + i]? = some (cellA ns (6 + i)) := by
      unfold cellA
      rw [List.getD_eq_getElem?_getD, List.getElem?_eq_getElem hi2.1]
      rfl
    generalize cellA ns (6 + i) = z0 at ecell
    have hix : (ns.map V.int)[6 + i]? = some (.int z0) := by
      rw [List.getElem?_map, ecell]
      rfl
    refine ⟨_, rfl, _, rfl, _, _, _, _, rfl, rfl, L.old.seq hS1, atI_nat (j := 6 + i) hix, ?_⟩
    obtain ⟨j, hj, ej⟩ : ∃ j : Nat, j < share ∧ z0 / 4 % (share : Int) = (j : Nat) := by
      have h1 := Int.emod_nonneg (z0 / 4) (show (share : Int) ≠ 0 by omega)
      have h2 := Int.emod_lt_of_pos (z0 / 4) (show (0 : Int) < share by omega)
      exact ⟨(z0 / 4 % (share : Int)).toNat, by omega, by omega⟩
    have hjm : hN (cellA ns 5) j ∈ hL (cellA ns 5) share := hL_mem.mpr ⟨j, hj, rfl⟩
    have hnj := hN_lt (cellA ns 5) j
    refine ⟨_, rfl, _, rfl, _, _, rfl, rfl, ⟨by decide, by decide⟩, _, rfl, _, _, rfl, .inl (SqL.of L.hd), _, _, rfl, rfl, ?_, _, _, _, .int (hN (cellA ns 5) j : Nat), rfl, rfl, SqL.of L.hd, ?_, ?_⟩
    · rw [hlen2]
      omega
    · rw [hlen2, ej]
      exact atI_nat (hgi hj)
    have hwj : (S.m.whr (hN (cellA ns 5) j)).isSome = true := by rw [hO _ hnj, decide_eq_true hjm]
    obtain ⟨ks, I⟩ := L.I
    refine ⟨fun σ H12 => ∃ (S1 : WS) (d1 : Nat), σ = [some (.ref a), some (.int (B : Nat)), some (.int (P : Nat)), some (.int (share : Nat)), some (.int (ill : Nat)), some (.ref (c.A 0)), some (.ref kA), some (.int (6 + (i : Int))), some (.ref hA), some (.int (hN (cellA ns 5) j : Nat)), some (.int z0)] ∧
      LS K c H1 kA hA (hL (cellA ns 5) share) S1 H12 d1 ∧ d1 ≤ d + 21 ∧ ((S1.m.whr (hN (cellA ns 5) j)).isSome = true ∨ nheld S1.m < c.share) ∧
      ∀ S2 : WS, (∀ m, m < 64 → (S2.m.whr m).isSome = if m = hN (cellA ns 5) j then true else (S1.m.whr m).isSome) → Holds S2 (hL (cellA ns 5) share), ?_, ?_⟩
    · refine ⟨_, rfl, _, _, rfl, rfl, (show (0 : Int) < 4 by decide), rfl, _, rfl, ite2 (fun _ => ?_) (fun _ => ?_)⟩
      · refine ⟨_, rfl, _, rfl, _, rfl, c, S, kA, ks, _, _, rfl, I, hnj, hwj, by omega, fun S2 ks2 H9 I2 ho2 f2 => ?_⟩
        refine ⟨true, rfl, iteF ?_⟩
        refine ⟨S2, _, rfl, L.step pl I2 f2, by omega, .inr ?_, fun S3 ho3 => hO.back hjm ho2 ho3⟩
        have h1 : nheld S.m = share := by
          rw [hO.nheld hnd hlt, hL_len]
        have h2 := nheld_drop hnj hwj ho2
        rw [cs]
        omega
      · exact iteF ⟨S, d, rfl, L, by omega, .inl hwj, fun S3 ho3 => hO.same hjm ho3⟩
    · rintro σ H12 ⟨S1, d1, rfl, L1, hd1, hok, hback⟩
      obtain ⟨ks1, I1⟩ := L1.I
      have p30 : (0 : Int) < 10 ^ (30 : Int).toNat := by decide
      have e30 : (10 : Int) ^ (30 : Int).toNat = 1000000000000000000000000000000 := by decide
      have hz0 : 0 ≤ (z0 * 48271 + (6 + (i : Int))) % 10 ^ (30 : Int).toNat := Int.emod_nonneg _ (by omega)
      have hz1 : (z0 * 48271 + (6 + (i : Int))) % 10 ^ (30 : Int).toNat < 1000000000000000000000000000000 := by
        rw [← e30]
        exact Int.emod_lt_of_pos _ p30
      refine ⟨_, rfl, _, rfl, _, rfl, _, rfl, _, _, rfl, rfl, .inr ⟨by decide, by decide⟩, _, rfl, _, _, rfl, rfl, _, _, rfl, rfl, ⟨by decide, by decide, by decide⟩, _, _, rfl, rfl, p30, c, S1, kA, ks1, _, _, _, rfl, I1, hnj, hz0, hz1, hok, by omega, fun S2 ks2 H9 I2 ho2 f2 => ?_⟩
      refine ⟨true, rfl, iteF ?_⟩
      exact ⟨_, _, _, S2, _, rfl, L1.step pl I2 f2, hback S2 ho2, by omega⟩
  obtain ⟨y7, y9, y10, S, d, rfl, L, hO, hd⟩ := hI
  obtain ⟨ks, I⟩ := L.I
  have R := I.R
  have G := I.F.good
  -- every sheet reads as it was written last
  refine ⟨_, rfl, by decide, by decide, for_range (lo := 0) (n := _) (fun i σ H12 => ∃ y9 : Option V, σ = [some (.ref a), some (.int (B : Nat)), some (.int (P : Nat)), some (.int (share : Nat)), some (.int (ill : Nat)), some (.ref (c.A 0)), some (.ref kA), y7, some (.ref hA), y9, y10] ∧ H12 = H11)
    ⟨y9, rfl, rfl⟩ (fun i σ H12 hi hI => ?_) (fun σ H12 hI => ?_)⟩
  · obtain ⟨y9, rfl, rfl⟩ := hI
    have hi : i < 64 := by omega
    refine ⟨_, rfl, _, _, _, rfl, R.at_ 0 (by decide), ln_Store_read, _, rfl, c, S, i, (by rw [Int.zero_add]; rfl), R, G, hi, ?_⟩
    refine ⟨_, rfl, kA, rfl, .inl ⟨_, .inl I.kH⟩, _, rfl, valV ks (Sum.inl (i : Int)), ?_, ?_⟩
    · rw [Int.zero_add]
      exact DGet.k (k := Sum.inl (i : Int)) I.kH
    have ev : (valV ks (Sum.inl (i : Int))).getD .non = optZ (content S.m i) := by
      rw [I.kv i hi]
      cases content S.m i <;> rfl
    rw [ev]
    refine ⟨?_, _, rfl, ?_⟩
    · cases content S.m i <;> rfl
    · rw [decide_eq_true rfl]
      exact iteF ⟨_, rfl, rfl⟩
  obtain ⟨y9, rfl, rfl⟩ := hI
  -- as many are held
  refine ⟨_, rfl, _, _, _, rfl, R.at_ 0 (by decide), ln_Store_held, c, S, rfl, R, G.w65, fun hs2 l2 H13 hnd2 hm2 s13 hl2 hl13 => ?_⟩
  have e2 : (intsN hs2).length = share := by
    unfold intsN
    rw [List.length_map, nodup_cnt hs2 64 hnd2 fun x hx => ((hm2 x).mp hx).1, ← hL_len (c5 := cellA ns 5) (n := share), ← hO.nheld hnd hlt]
    refine cnt_congr fun i hi => ?_
    cases e : (S.m.whr i).isSome with
    | true => exact decide_eq_true ((hm2 i).mpr ⟨hi, e⟩)
    | false => exact decide_eq_false fun z => by rw [((hm2 i).mp z).2] at e; cases e
  refine ⟨_, _, rfl, .inl (SqL.of hl13), _, rfl, _, _, rfl, .inl (SqL.of (s13 _ _ L.hd)), rfl, _, rfl, ?_⟩
  rw [e2, hlen2, decide_eq_true rfl]
  refine iteF ?_
  have R13 := R.same s13
  refine ⟨_, rfl, _, _, rfl, rfl, _, rfl, ite2 (fun hgt => ?_) (fun hle => ?_)⟩
  · exact k _
  have hle : share < 64 := by
    have : ¬ (63 : Int) < (share : Int) := fun z => hle (decide_eq_true z)
    omega
  have elast : atI (intsN (hL (cellA ns 5) share)) (-1) = some (.int (hN (cellA ns 5) (share - 1) : Nat)) := by
    obtain ⟨p, rfl⟩ : ∃ p, share = p + 1 := ⟨share - 1, by omega⟩
    rw [hL_succ]
    unfold intsN
    rw [List.map_append]
    exact atI_last _ _
  have enext : (((hN (cellA ns 5) (share - 1) : Nat) : Int) + 5) % 64 = ((hN (cellA ns 5) share : Nat) : Int) := by
    have h1 := hN_eq (cellA ns 5) (share - 1)
    have h2 := hN_eq (cellA ns 5) share
    omega
  have hno : S.m.whr (hN (cellA ns 5) share) = none := by
    have h1 := hO _ (hN_lt (cellA ns 5) share)
    rw [decide_eq_false fun z => by
      obtain ⟨i, hi, e⟩ := hL_mem.mp z
      have := hN_inj (by omega) (by omega) e
      omega] at h1
    cases e : S.m.whr (hN (cellA ns 5) share) with
    | none => rfl
    | some p => rw [e] at h1; cases h1
  refine ⟨_, rfl, _, rfl, 1, rfl, _, _, _, _, rfl, rfl, SqL.of (s13 _ _ L.hd), elast, _, _, rfl, rfl, _, _, rfl, rfl, (show (0 : Int) < 64 by decide), c, S, hN (cellA ns 5) share, ?_, R13, G, hN_lt _ _, hno, ?_, fun H' => k H'⟩
  · show [V.ref (c.A 0), V.int ((((hN (cellA ns 5) (share - 1) : Nat) : Int) + 5) % 64)] = _
    rw [enext]
  · rw [hO.nheld hnd hlt, hL_len, cs]
    exact Nat.le_refl _
end
end Wp
set_option maxHeartbeats 0
namespace Wp
open PySem PySem.Spec PyProof.Rows L2
theorem facts {P : Program} {w : World} {K : PySem.W.Frag} {h : Heap} {mg : Str → Option Value} {f : Addr} (X : K.In h) (G : h.Ns mainGlobals mg) (hfa : mg ("law" : Str) = some (.ref f)) (c : He.SaysD fa fn K) (e : ex K = true) :
    ∃ fd : FuncData, (∀ (s : Shared) (v : Value), BindsTo s fd ⟨[v], []⟩ [("_law_script", v)]) ∧ ∀ base : Heap, FnOk P w K mg base CX0 17 f fd ["_law_script"] (spLaw K) := by
  have T : Txt K mg := ⟨c, e, h, X, G⟩
  obtain ⟨fd, F⟩ := T.d_law
  obtain rfl : f = He.ga K "law" := by
    have := hfa.symm.trans T.g_law
    cases this
    rfl
  have b := FunD.bindsA (ps := ["_law_script"]) F fun _ _ _ _ _ _ us hl => match us, hl with | [_], _ => rfl
  exact ⟨fd, fun s v => b s [v] rfl, fun base => law_fn T F⟩
end Wp
open PySem PySem.W PySem.Calls PyProof.Rows
theorem PySem.Challenge.cw_wornpages_k38_whole_full_share_holds : PySem.Challenge.rw_wornpages_k38_whole_full_share.Holds := by
  w_on; o_law
  refine HandSHeadRun.head_any (r := Wp.R) (q := view Wp.R.prog [45]) (H := Wp.hk) (ob := Wp.ob) (M := 8000) (loose := Wp.names) (d := HandSHeadRun.topDef Wp.R.prog 45) (kwd := []) Wp.ob_eq
    (by kernel_rfl) (fun s => by kernel_rfl) Wp.run (by kernel_rfl) (by kernel_rfl) (by kernel_rfl) (by rfl) (by first | assumption | decide +kernel) (by decide +kernel) ⟨rfl, rfl, rfl, rfl, rfl, by decide +kernel⟩ ?hw ?hc
  case hw => w_witness2
  case hc =>
    refine L2.walk_ofE (l := PySem.Challenge.rw_wornpages_k38_whole_full_share) (n := 63) (k := 17) (x := "_law_script") (CX := L2.CX0) rfl (by decide) (by kernel_rfl) ⟨rfl, by decide, by decide⟩ ?F (fun _ _ _ _ z => z)
    intro w mg fa h Y G hmg0
    obtain ⟨K, KX, c, e⟩ := Y
    have hmg : mg ("law" : PySem.Str) = some (.ref fa) := by
      have e : (HandSHeadRun.topDef Wp.R.prog 45).name = ("law" : PySem.Str) := by kernel_rfl
      rw [← e]
      exact hmg0
    obtain ⟨fd, hb, hF⟩ := Wp.facts (P := (PySem.Challenge.rw_wornpages_k38_whole_full_share).prog) (w := w) KX G hmg c e
    exact ⟨K, fd, Wp.spLaw K, KX, hb, fun H a ns hl _ hS => ⟨a, ns, rfl, hl, hS, fun _ => rfl⟩, fun base _ _ => hF base⟩
