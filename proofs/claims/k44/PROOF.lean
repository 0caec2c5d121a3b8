import PyProof.Rows.All
import Wide.All
import OpenK.AllK
import Wide.FinOn
import PySem.Challenge.RW_leasehall_k44_whole_farthest_is_least
import PyProof.MinMaxWalk
import PyProof.WalksMore
import PyProof.TupleOfSeq
import KE.KDictDisplayH
import HandS.Base
import HandS.Call
import HandS.List
import HandS.Comp
import HandS.Ends
import HandS.Dict
import HandS.Iter
import HandS.Words
import HandS.WordsList
import HandS.WordsDict
import HandS.TupAny
import HandS.CallLocal
import HandS.IsInst
import HandS.Codes
import HandS.Walk
set_option Elab.async false
set_option linter.all false
set_option maxRecDepth 100000
set_option maxHeartbeats 16000000
/-! The mathematics: the farthest rule fetches least. No program in sight. -/
namespace K44

section
variable {β : Type} [DecidableEq β]

/-- z goes, k comes -/
def sw (S : β → Prop) (z k : β) : β → Prop := fun x => (S x ∧ x ≠ z) ∨ x = k
def ad (R : β → Prop) (y : β) : β → Prop := fun x => R x ∨ x = y

inductive Run : (β → Prop) → List β → Int → Prop
  | nil {S} : Run S [] 0
  | hit {S k σ c} : S k → Run S σ c → Run S (k :: σ) c
  | miss {S k z σ c} : ¬ S k → S z → Run (sw S z k) σ c → Run S (k :: σ) (c + 1)

theorem Run.nil_inv {S : β → Prop} {c : Int} (h : Run S [] c) : c = 0 := by
  cases h
  rfl
theorem Run.cons_inv {S : β → Prop} {k : β} {σ : List β} {c : Int} (h : Run S (k :: σ) c) :
    (S k ∧ Run S σ c) ∨ (¬ S k ∧ ∃ z d, S z ∧ Run (sw S z k) σ d ∧ c = d + 1) := by
  cases h with
  | hit a b => exact .inl ⟨a, b⟩
  | miss a b d => exact .inr ⟨a, _, _, b, d, rfl⟩

theorem sw_ad_self {R : β → Prop} {y k : β} (hy : ¬ R y) : sw (ad R y) y k = ad R k := by
  funext w
  apply propext
  constructor
  · rintro (⟨a | a, n⟩ | a)
    · exact .inl a
    · exact absurd a n
    · exact .inr a
  · rintro (a | a)
    · exact .inl ⟨.inl a, fun e => hy (e ▸ a)⟩
    · exact .inr a
theorem sw_ad_other {R : β → Prop} {y z k : β} (hyz : y ≠ z) : sw (ad R y) z k = ad (sw R z k) y := by
  funext w
  apply propext
  constructor
  · rintro (⟨a | a, n⟩ | a)
    · exact .inl (.inl ⟨a, n⟩)
    · exact .inr a
    · exact .inl (.inr a)
  · rintro ((⟨a, n⟩ | a) | a)
    · exact .inl ⟨.inl a, n⟩
    · exact .inr a
    · exact .inl ⟨.inr a, fun e => hyz (a ▸ e)⟩
theorem ad_back {R : β → Prop} {x z : β} (hz : R z) : ad R x = ad (sw R z x) z := by
  funext w
  apply propext
  constructor
  · rintro (a | a)
    · by_cases e : w = z
      · exact .inr e
      · exact .inl (.inl ⟨a, e⟩)
    · exact .inl (.inr a)
  · rintro ((⟨a, n⟩ | a) | a)
    · exact .inl a
    · exact .inr a
    · exact .inl (a ▸ hz)
theorem not_sw {R : β → Prop} {z k x : β} (hx : ¬ R x) (hk : x ≠ k) : ¬ sw R z k x := by
  rintro (⟨a, _⟩ | a)
  · exact hx a
  · exact hk a
theorem not_sw_self {R : β → Prop} {z k : β} (hk : z ≠ k) : ¬ sw R z k z := by
  rintro (⟨_, n⟩ | a)
  · exact n rfl
  · exact hk a

/-- sets that differ by one: at most one fetch more -/
theorem lem1 : ∀ (σ : List β) (R : β → Prop) (x y : β) (c : Int), ¬ R x → ¬ R y → x ≠ y → Run (ad R y) σ c → ∃ c', c' ≤ c + 1 ∧ Run (ad R x) σ c'
  | [], R, x, y, c, hx, hy, hxy, h => by
    have e := h.nil_inv
    exact ⟨0, by omega, .nil⟩
  | k :: σ, R, x, y, c, hx, hy, hxy, h => by
    rcases h.cons_inv with ⟨a | a, h1⟩ | ⟨hn, z, d, hz, h1, rfl⟩
    · obtain ⟨c', l, r⟩ := lem1 σ R x y c hx hy hxy h1
      exact ⟨c', l, .hit (.inl a) r⟩
    · subst a
      refine ⟨c + 1, Int.le_refl _, .miss (z := x) ?_ (.inr rfl) ?_⟩
      · rintro (b | b)
        · exact hy b
        · exact hxy b.symm
      · rw [sw_ad_self hx]
        exact h1
    · have hRk : ¬ R k := fun b => hn (.inl b)
      have hky : k ≠ y := fun b => hn (.inr b)
      by_cases hkx : k = x
      · subst hkx
        by_cases hzy : z = y
        · subst hzy
          rw [sw_ad_self hy] at h1
          exact ⟨d, by omega, .hit (.inr rfl) h1⟩
        · have hRz : R z := hz.resolve_right hzy
          have hzk : z ≠ k := fun e => hx (e ▸ hRz)
          rw [sw_ad_other (Ne.symm hzy)] at h1
          obtain ⟨c', l, r⟩ := lem1 σ (sw R z k) z y d (not_sw_self hzk) (not_sw hy (Ne.symm hky)) hzy h1
          rw [← ad_back hRz] at r
          exact ⟨c', by omega, .hit (.inr rfl) r⟩
      · have hnx : ¬ ad R x k := by
          rintro (b | b)
          · exact hRk b
          · exact hkx b
        by_cases hzy : z = y
        · subst hzy
          rw [sw_ad_self hy] at h1
          exact ⟨d + 1, by omega, .miss (z := x) hnx (.inr rfl) (by rw [sw_ad_self hx]; exact h1)⟩
        · have hRz : R z := hz.resolve_right hzy
          have hzx : x ≠ z := fun e => hx (e ▸ hRz)
          rw [sw_ad_other (Ne.symm hzy)] at h1
          obtain ⟨c', l, r⟩ := lem1 σ (sw R z k) x y d (not_sw hx (Ne.symm hkx)) (not_sw hy (Ne.symm hky)) hxy h1
          exact ⟨c' + 1, by omega, .miss (z := z) hnx (.inl hRz) (by rw [sw_ad_other hzx]; exact r)⟩

/-- the place of the first x, or the length -/
def ix : List β → β → Nat
  | [], _ => 0
  | k :: σ, x => if k = x then 0 else ix σ x + 1
theorem ix_self (k : β) (σ : List β) : ix (k :: σ) k = 0 := if_pos rfl
theorem ix_ne {k x : β} (σ : List β) (h : k ≠ x) : ix (k :: σ) x = ix σ x + 1 := if_neg h
theorem ix_le (x : β) : ∀ σ : List β, ix σ x ≤ σ.length
  | [] => Nat.le_refl _
  | k :: σ => by
    have := ix_le x σ
    unfold ix
    split
    · exact Nat.zero_le _
    · rw [List.length_cons]
      omega

/-- the sooner used in the place of the later used: no fetch more -/
theorem lem2 : ∀ (σ : List β) (R : β → Prop) (x y : β) (c : Int), ¬ R x → ¬ R y → x ≠ y → ix σ x ≤ ix σ y → Run (ad R y) σ c → ∃ c', c' ≤ c ∧ Run (ad R x) σ c'
  | [], R, x, y, c, hx, hy, hxy, hi, h => by
    have e := h.nil_inv
    exact ⟨0, by omega, .nil⟩
  | k :: σ, R, x, y, c, hx, hy, hxy, hi, h => by
    rcases h.cons_inv with ⟨a | a, h1⟩ | ⟨hn, z, d, hz, h1, rfl⟩
    · have hkx : k ≠ x := fun e => hx (e ▸ a)
      have hky : k ≠ y := fun e => hy (e ▸ a)
      rw [ix_ne σ hkx, ix_ne σ hky] at hi
      obtain ⟨c', l, r⟩ := lem2 σ R x y c hx hy hxy (by omega) h1
      exact ⟨c', l, .hit (.inl a) r⟩
    · subst a
      rw [ix_self, ix_ne σ (Ne.symm hxy)] at hi
      omega
    · have hRk : ¬ R k := fun b => hn (.inl b)
      have hky : k ≠ y := fun b => hn (.inr b)
      by_cases hkx : k = x
      · subst hkx
        by_cases hzy : z = y
        · subst hzy
          rw [sw_ad_self hy] at h1
          exact ⟨d, by omega, .hit (.inr rfl) h1⟩
        · have hRz : R z := hz.resolve_right hzy
          have hzk : z ≠ k := fun e => hx (e ▸ hRz)
          rw [sw_ad_other (Ne.symm hzy)] at h1
          obtain ⟨c', l, r⟩ := lem1 σ (sw R z k) z y d (not_sw_self hzk) (not_sw hy (Ne.symm hky)) hzy h1
          rw [← ad_back hRz] at r
          exact ⟨c', by omega, .hit (.inr rfl) r⟩
      · have hnx : ¬ ad R x k := by
          rintro (b | b)
          · exact hRk b
          · exact hkx b
        rw [ix_ne σ hkx, ix_ne σ hky] at hi
        by_cases hzy : z = y
        · subst hzy
          rw [sw_ad_self hy] at h1
          exact ⟨d + 1, by omega, .miss (z := x) hnx (.inr rfl) (by rw [sw_ad_self hx]; exact h1)⟩
        · have hRz : R z := hz.resolve_right hzy
          have hzx : x ≠ z := fun e => hx (e ▸ hRz)
          rw [sw_ad_other (Ne.symm hzy)] at h1
          obtain ⟨c', l, r⟩ := lem2 σ (sw R z k) x y d (not_sw hx (Ne.symm hkx)) (not_sw hy (Ne.symm hky)) hxy (by omega) h1
          exact ⟨c' + 1, by omega, .miss (z := z) hnx (.inl hRz) (by rw [sw_ad_other hzx]; exact r)⟩

inductive GRun : (β → Prop) → List β → Int → Prop
  | nil {S} : GRun S [] 0
  | hit {S k σ c} : S k → GRun S σ c → GRun S (k :: σ) c
  | miss {S k z σ c} : ¬ S k → S z → (∀ w, S w → ix σ w ≤ ix σ z) → GRun (sw S z k) σ c → GRun S (k :: σ) (c + 1)

theorem sw_split {S : β → Prop} {z f k : β} (hz : S z) (hf : S f) (hzf : z ≠ f) (hk : ¬ S k) :
    sw S z k = ad (fun w => (S w ∧ w ≠ z ∧ w ≠ f) ∨ w = k) f := by
  funext w
  apply propext
  constructor
  · rintro (⟨a, n⟩ | a)
    · by_cases e : w = f
      · exact .inr e
      · exact .inl (.inl ⟨a, n, e⟩)
    · exact .inl (.inr a)
  · rintro ((⟨a, n, _⟩ | a) | a)
    · exact .inl ⟨a, n⟩
    · exact .inr a
    · exact .inl ⟨a ▸ hf, fun e => hzf (e.symm.trans a)⟩

/-- the farthest rule is least -/
theorem belady {S : β → Prop} {σ : List β} {g : Int} (h : GRun S σ g) : ∀ c, Run S σ c → g ≤ c := by
  induction h with
  | nil =>
    intro c r
    have := r.nil_inv
    omega
  | hit a _ ih =>
    intro c r
    rcases r.cons_inv with ⟨_, h1⟩ | ⟨n, _⟩
    · exact ih c h1
    · exact absurd a n
  | @miss S k f σ g hk hf far _ ih =>
    intro c r
    rcases r.cons_inv with ⟨a, _⟩ | ⟨_, z, d, hz, h1, rfl⟩
    · exact absurd a hk
    · by_cases e : z = f
      · subst e
        have := ih d h1
        omega
      · have hkf : f ≠ k := fun q => hk (q ▸ hf)
        have hkz : z ≠ k := fun q => hk (q ▸ hz)
        rw [sw_split hz hf e hk] at h1
        obtain ⟨c', l, r'⟩ := lem2 σ (fun w => (S w ∧ w ≠ z ∧ w ≠ f) ∨ w = k) z f d
          (by rintro (⟨_, n, _⟩ | a); exact n rfl; exact hkz a) (by rintro (⟨_, _, n⟩ | a); exact n rfl; exact hkf a) e (far z hz) h1
        have e2 : ad (fun w => (S w ∧ w ≠ z ∧ w ≠ f) ∨ w = k) z = sw S f k := by
          rw [sw_split hf hz (Ne.symm e) hk]
          congr 1
          funext w
          apply propext
          constructor
          · rintro (⟨a, b, c⟩ | a)
            · exact .inl ⟨a, c, b⟩
            · exact .inr a
          · rintro (⟨a, b, c⟩ | a)
            · exact .inl ⟨a, c, b⟩
            · exact .inr a
        rw [e2] at r'
        have := ih c' r'
        omega
end

/-! ### lists of held keys -/
section
variable {α : Type} [DecidableEq α]

/-- the held keys behind one key -/
def nxt (h : List α) (k : α) (r : Option α) : List α :=
  if k ∈ h then h else match r with
    | none => h ++ [k]
    | some z => h.erase z ++ [k]
/-- the removal for one key is as it must be; sel: which key may go -/
def Okr (sel : List α → List α → α → Prop) (p : Nat) (h : List α) (k : α) (ks : List α) (r : Option α) : Prop :=
  (k ∈ h ∧ r = none) ∨ (k ∉ h ∧ h.length < p ∧ r = none) ∨ (k ∉ h ∧ h.length = p ∧ ∃ z, r = some z ∧ z ∈ h ∧ sel h ks z)
def Serve (sel : List α → List α → α → Prop) (p : Nat) : List α → List α → List (Option α) → Prop
  | _, [], rs => rs = []
  | _, _ :: _, [] => False
  | h, k :: ks, r :: rs => Okr sel p h k ks r ∧ Serve sel p (nxt h k r) ks rs
def cost : List α → List α → List (Option α) → Int
  | _, [], _ => 0
  | h, k :: ks, rs => (if k ∈ h then 0 else 1) + cost (nxt h k (rs.headD none)) ks rs.tail
structure Good (p : Nat) (h : List α) : Prop where
  nd : h.Nodup
  le : h.length ≤ p

theorem good_nil (p : Nat) : Good p ([] : List α) := ⟨List.nodup_nil, Nat.zero_le _⟩
theorem nd_snoc {l : List α} {k : α} (h : l.Nodup) (hk : k ∉ l) : (l ++ [k]).Nodup := by
  rw [List.nodup_append]
  refine ⟨h, by simp, fun a ha b hb => ?_⟩
  rw [List.mem_singleton] at hb
  subst hb
  exact fun e => hk (e ▸ ha)
theorem not_mem_erase {l : List α} {k z : α} (hk : k ∉ l) : k ∉ l.erase z := fun m => hk (List.mem_of_mem_erase m)
theorem good_nxt {sel : List α → List α → α → Prop} {p : Nat} {h ks : List α} {k : α} {r : Option α} (g : Good p h) (o : Okr sel p h k ks r) : Good p (nxt h k r) := by
  rcases o with ⟨a, rfl⟩ | ⟨a, l, rfl⟩ | ⟨a, l, z, rfl, hz, _⟩
  · unfold nxt
    rw [if_pos a]
    exact g
  · unfold nxt
    rw [if_neg a]
    refine ⟨nd_snoc g.nd a, ?_⟩
    show (h ++ [k]).length ≤ p
    rw [List.length_append, List.length_singleton]
    omega
  · unfold nxt
    rw [if_neg a]
    refine ⟨nd_snoc (g.nd.erase z) (not_mem_erase a), ?_⟩
    have hpos : 0 < h.length := List.length_pos_of_mem hz
    show (h.erase z ++ [k]).length ≤ p
    rw [List.length_append, List.length_singleton, List.length_erase_of_mem hz]
    omega
theorem Serve.mono {sel sel' : List α → List α → α → Prop} {p : Nat} (hm : ∀ h ks z, sel h ks z → sel' h ks z) : ∀ {ks h : List α} {rs : List (Option α)}, Serve sel p h ks rs → Serve sel' p h ks rs
  | [], _, _, s => s
  | _ :: _, _, [], s => s.elim
  | k :: ks, h, r :: rs, s => by
    refine ⟨?_, Serve.mono hm s.2⟩
    rcases s.1 with o | o | ⟨a, l, z, e, hz, hs⟩
    · exact .inl o
    · exact .inr (.inl o)
    · exact .inr (.inr ⟨a, l, z, e, hz, hm _ _ _ hs⟩)
theorem Serve.len {sel : List α → List α → α → Prop} {p : Nat} : ∀ {ks h : List α} {rs : List (Option α)}, Serve sel p h ks rs → rs.length = ks.length
  | [], _, _, s => by rw [show _ = [] from s]; rfl
  | _ :: _, _, [], s => s.elim
  | k :: ks, h, r :: rs, s => by
    rw [List.length_cons, List.length_cons, Serve.len s.2]

/-- the held keys, filled up with places -/
def pad (p : Nat) (l : List α) : (α ⊕ Nat) → Prop
  | .inl a => a ∈ l
  | .inr j => l.length ≤ j ∧ j < p
theorem pad_perm {p : Nat} {l m : List α} (h : l.Perm m) : pad p l = pad p m := by
  funext w
  cases w with
  | inl a => exact propext h.mem_iff
  | inr j =>
    show (l.length ≤ j ∧ j < p) = (m.length ≤ j ∧ j < p)
    rw [h.length_eq]
theorem pad_add {p : Nat} {l : List α} {k : α} (hl : l.length < p) : sw (pad p l) (.inr l.length) (.inl k) = pad p (l ++ [k]) := by
  funext w
  apply propext
  cases w with
  | inl a =>
    show ((a ∈ l ∧ _) ∨ Sum.inl a = Sum.inl k) ↔ a ∈ l ++ [k]
    rw [List.mem_append, List.mem_singleton]
    constructor
    · rintro (⟨b, _⟩ | b)
      · exact .inl b
      · exact .inr (Sum.inl.inj b)
    · rintro (b | b)
      · exact .inl ⟨b, fun e => by cases e⟩
      · exact .inr (by rw [b])
  | inr j =>
    show (((l.length ≤ j ∧ j < p) ∧ _) ∨ Sum.inr j = Sum.inl k) ↔ ((l ++ [k]).length ≤ j ∧ j < p)
    rw [List.length_append, List.length_singleton]
    constructor
    · rintro (⟨⟨b, c⟩, n⟩ | b)
      · have : j ≠ l.length := fun e => n (by rw [e])
        omega
      · cases b
    · rintro ⟨b, c⟩
      refine .inl ⟨⟨by omega, c⟩, fun e => ?_⟩
      have := Sum.inr.inj e
      omega
theorem pad_put {p : Nat} {l : List α} {k z : α} (hn : l.Nodup) (hz : z ∈ l) : sw (pad p l) (.inl z) (.inl k) = pad p (l.erase z ++ [k]) := by
  funext w
  apply propext
  have hpos : 0 < l.length := List.length_pos_of_mem hz
  cases w with
  | inl a =>
    show ((a ∈ l ∧ _) ∨ Sum.inl a = Sum.inl k) ↔ a ∈ l.erase z ++ [k]
    rw [List.mem_append, List.mem_singleton, hn.mem_erase_iff]
    constructor
    · rintro (⟨b, n⟩ | b)
      · exact .inl ⟨fun e => n (by rw [e]), b⟩
      · exact .inr (Sum.inl.inj b)
    · rintro (⟨n, b⟩ | b)
      · exact .inl ⟨b, fun e => n (Sum.inl.inj e)⟩
      · exact .inr (by rw [b])
  | inr j =>
    show (((l.length ≤ j ∧ j < p) ∧ _) ∨ Sum.inr j = Sum.inl k) ↔ ((l.erase z ++ [k]).length ≤ j ∧ j < p)
    rw [List.length_append, List.length_singleton, List.length_erase_of_mem hz]
    constructor
    · rintro (⟨⟨b, c⟩, _⟩ | b)
      · omega
      · cases b
    · rintro ⟨b, c⟩
      exact .inl ⟨⟨by omega, c⟩, fun e => by cases e⟩

theorem ix_inl (a : α) : ∀ ks : List α, ix (ks.map (Sum.inl : α → α ⊕ Nat)) (.inl a) = ix ks a
  | [] => rfl
  | k :: ks => by
    by_cases e : k = a
    · subst e
      rw [List.map_cons, ix_self, ix_self]
    · rw [List.map_cons, ix_ne _ (fun q => e (Sum.inl.inj q)), ix_ne _ e, ix_inl a ks]
theorem ix_inr (j : Nat) : ∀ ks : List α, ix (ks.map (Sum.inl : α → α ⊕ Nat)) (.inr j) = ks.length
  | [] => rfl
  | k :: ks => by
    rw [List.map_cons, ix_ne _ (fun q => by cases q), ix_inr j ks]
    rfl

/-- the latest used next; of those the least -/
def Far (lt : α → α → Prop) (h ks : List α) (z : α) : Prop := ∀ w ∈ h, ix ks w ≤ ix ks z ∧ (ix ks w = ix ks z → ¬ lt w z)
def Any (h ks : List α) (z : α) : Prop := True

/-- one step of a served list, over sets -/
theorem step_run {sel : List α → List α → α → Prop} {p : Nat} {h ks : List α} {k : α} {r : Option α} {σ : List (α ⊕ Nat)} {c : Int} (g : Good p h) (o : Okr sel p h k ks r)
    (R : Run (pad p (nxt h k r)) σ c) : Run (pad p h) (.inl k :: σ) ((if k ∈ h then 0 else 1) + c) := by
  rcases o with ⟨a, rfl⟩ | ⟨a, l, rfl⟩ | ⟨a, l, z, rfl, hz, _⟩
  · unfold nxt at R
    rw [if_pos a] at R ⊢
    rw [Int.zero_add]
    exact .hit a R
  · unfold nxt at R
    rw [if_neg a] at R ⊢
    rw [Int.add_comm]
    exact .miss (z := (Sum.inr h.length : α ⊕ Nat)) a (show h.length ≤ h.length ∧ h.length < p from ⟨Nat.le_refl _, l⟩) (by rw [pad_add l]; exact R)
  · unfold nxt at R
    rw [if_neg a] at R ⊢
    rw [Int.add_comm]
    exact .miss (z := (Sum.inl z : α ⊕ Nat)) a hz (by rw [pad_put g.nd hz]; exact R)
theorem run_of {sel : List α → List α → α → Prop} {p : Nat} : ∀ {ks h : List α} {rs : List (Option α)}, Serve sel p h ks rs → Good p h → Run (pad p h) (ks.map .inl) (cost h ks rs)
  | [], _, _, _, _ => .nil
  | _ :: _, _, [], s, _ => s.elim
  | k :: ks, h, r :: rs, s, g => step_run g s.1 (run_of s.2 (good_nxt g s.1))
theorem grun_of {lt : α → α → Prop} {p : Nat} : ∀ {ks h : List α} {rs : List (Option α)}, Serve (Far lt) p h ks rs → Good p h → GRun (pad p h) (ks.map .inl) (cost h ks rs)
  | [], _, _, _, _ => .nil
  | _ :: _, _, [], s, _ => s.elim
  | k :: ks, h, r :: rs, s, g => by
    have ih := grun_of s.2 (good_nxt g s.1)
    show GRun (pad p h) (.inl k :: ks.map .inl) ((if k ∈ h then 0 else 1) + cost (nxt h k r) ks rs)
    rcases s.1 with ⟨a, rfl⟩ | ⟨a, l, rfl⟩ | ⟨a, l, z, rfl, hz, hf⟩
    · unfold nxt at ih ⊢
      rw [if_pos a] at ih ⊢
      rw [if_pos a, Int.zero_add]
      exact .hit a ih
    · unfold nxt at ih ⊢
      rw [if_neg a] at ih ⊢
      rw [if_neg a, Int.add_comm]
      refine .miss (z := (Sum.inr h.length : α ⊕ Nat)) a (show h.length ≤ h.length ∧ h.length < p from ⟨Nat.le_refl _, l⟩) (fun w hw => ?_) (by rw [pad_add l]; exact ih)
      rw [ix_inr]
      cases w with
      | inl b =>
        rw [ix_inl]
        exact ix_le _ _
      | inr j =>
        rw [ix_inr]
        exact Nat.le_refl _
    · unfold nxt at ih ⊢
      rw [if_neg a] at ih ⊢
      rw [if_neg a, Int.add_comm]
      refine .miss (z := (Sum.inl z : α ⊕ Nat)) a hz (fun w hw => ?_) (by rw [pad_put g.nd hz]; exact ih)
      cases w with
      | inl b =>
        rw [ix_inl, ix_inl]
        exact (hf b hw).1
      | inr j =>
        have q : h.length ≤ j ∧ j < p := hw
        omega
/-- the farthest list is least among the valid lists -/
theorem far_least {lt : α → α → Prop} {sel : List α → List α → α → Prop} {p : Nat} {ks : List α} {rs rs' : List (Option α)} (h : Serve (Far lt) p [] ks rs) (h' : Serve sel p [] ks rs') : cost [] ks rs ≤ cost [] ks rs' :=
  belady (grun_of h (good_nil p)) _ (run_of h' (good_nil p))

/-! ### all sets of held keys -/
/-- what one key makes of a held set m, at the cost e more -/
def Opt (k : α) (p : Nat) (l m : List α) (e : Int) : Prop :=
  (k ∈ l ∧ m = l ∧ e = 0) ∨ (k ∉ l ∧ l.length < p ∧ m = l ++ [k] ∧ e = 1) ∨ (k ∉ l ∧ ¬ l.length < p ∧ ∃ z ∈ l, m = l.erase z ++ [k] ∧ e = 1)
/-- l can be reached at the cost c -/
def Sound (p : Nat) (ks0 suf : List α) (l : List α) (c : Int) : Prop :=
  Good p l ∧ ∀ d, Run (pad p l) (suf.map .inl) d → Run (pad p []) (ks0.map .inl) (c + d)
theorem Sound.start (p : Nat) (ks : List α) : Sound p ks ks [] 0 := ⟨good_nil p, fun d h => by rw [Int.zero_add]; exact h⟩
theorem Sound.step {p : Nat} {ks0 suf l l' m : List α} {k : α} {c e : Int} (s : Sound p ks0 (k :: suf) l c) (o : Opt k p l m e) (q : l'.Perm m) : Sound p ks0 suf l' (c + e) := by
  obtain ⟨g, hs⟩ := s
  rcases o with ⟨a, rfl, rfl⟩ | ⟨a, b, rfl, rfl⟩ | ⟨a, b, z, hz, rfl, rfl⟩
  · refine ⟨⟨q.nodup_iff.mpr g.nd, by rw [q.length_eq]; exact g.le⟩, fun d h => ?_⟩
    rw [pad_perm q] at h
    rw [Int.add_zero]
    exact hs d (.hit a h)
  · refine ⟨⟨q.nodup_iff.mpr (nd_snoc g.nd a), by rw [q.length_eq, List.length_append, List.length_singleton]; omega⟩, fun d h => ?_⟩
    rw [pad_perm q, ← pad_add b] at h
    rw [show c + 1 + d = c + (d + 1) by omega]
    exact hs (d + 1) (.miss (z := (Sum.inr l.length : α ⊕ Nat)) a (show l.length ≤ l.length ∧ l.length < p from ⟨Nat.le_refl _, b⟩) h)
  · have hpos : 0 < l.length := List.length_pos_of_mem hz
    have := g.le
    refine ⟨⟨q.nodup_iff.mpr (nd_snoc (g.nd.erase z) (not_mem_erase a)), by rw [q.length_eq, List.length_append, List.length_singleton, List.length_erase_of_mem hz]; omega⟩, fun d h => ?_⟩
    rw [pad_perm q, ← pad_put g.nd hz] at h
    rw [show c + 1 + d = c + (d + 1) by omega]
    exact hs (d + 1) (.miss (z := (Sum.inl z : α ⊕ Nat)) a hz h)
/-- l is on the way of a valid list of the whole cost G -/
def Track (p : Nat) (suf : List α) (G : Int) (l : List α) (c : Int) : Prop :=
  ∃ h rs, l.Perm h ∧ Good p h ∧ Serve Any p h suf rs ∧ c + cost h suf rs ≤ G
theorem Track.mono {p : Nat} {suf : List α} {G : Int} {l : List α} {c c' : Int} (t : Track p suf G l c) (h : c' ≤ c) : Track p suf G l c' := by
  obtain ⟨m, rs, a, b, s, e⟩ := t
  exact ⟨m, rs, a, b, s, by omega⟩
theorem Track.step {p : Nat} {suf l : List α} {k : α} {G c : Int} (t : Track p (k :: suf) G l c) : ∃ m e, Opt k p l m e ∧ ∀ l', l'.Perm m → Track p suf G l' (c + e) := by
  obtain ⟨h, rs, q, g, s, hc⟩ := t
  cases rs with
  | nil => exact s.elim
  | cons r rs =>
    have hc : c + ((if k ∈ h then 0 else 1) + cost (nxt h k r) suf rs) ≤ G := hc
    have g' := good_nxt g s.1
    have fin : ∀ m e, Opt k p l m e → m.Perm (nxt h k r) → (e = if k ∈ h then 0 else 1) → ∃ m e, Opt k p l m e ∧ ∀ l', l'.Perm m → Track p suf G l' (c + e) :=
      fun m e o pm ee => ⟨m, e, o, fun l' pl => ⟨_, rs, pl.trans pm, g', s.2, by rw [ee]; omega⟩⟩
    rcases s.1 with ⟨a, rfl⟩ | ⟨a, b, rfl⟩ | ⟨a, b, z, rfl, hz, _⟩
    · refine fin l 0 (.inl ⟨q.mem_iff.mpr a, rfl, rfl⟩) ?_ (by rw [if_pos a])
      unfold nxt
      rw [if_pos a]
      exact q
    · have al : k ∉ l := fun m => a (q.mem_iff.mp m)
      refine fin (l ++ [k]) 1 (.inr (.inl ⟨al, by rw [q.length_eq]; exact b, rfl, rfl⟩)) ?_ (by rw [if_neg a])
      unfold nxt
      rw [if_neg a]
      exact q.append_right _
    · have al : k ∉ l := fun m => a (q.mem_iff.mp m)
      refine fin (l.erase z ++ [k]) 1 (.inr (.inr ⟨al, by rw [q.length_eq]; omega, z, q.mem_iff.mpr hz, rfl, rfl⟩)) ?_ (by rw [if_neg a])
      unfold nxt
      rw [if_neg a]
      exact (q.erase z).append_right _
theorem Track.start {sel : List α → List α → α → Prop} {p : Nat} {ks : List α} {rs : List (Option α)} (h : Serve sel p [] ks rs) : Track p ks (cost [] ks rs) [] 0 :=
  ⟨[], rs, .refl _, good_nil p, h.mono fun _ _ _ _ => True.intro, by omega⟩
theorem Track.stop {p : Nat} {G : Int} {l : List α} {c : Int} (t : Track p [] G l c) : c ≤ G := by
  obtain ⟨h, rs, _, _, _, e⟩ := t
  have e : c + 0 ≤ G := e
  omega
theorem Sound.stop {lt : α → α → Prop} {p : Nat} {ks l : List α} {rs : List (Option α)} {c : Int} (s : Sound p ks [] l c) (h : Serve (Far lt) p [] ks rs) : cost [] ks rs ≤ c := by
  have := belady (grun_of h (good_nil p)) _ (s.2 0 .nil)
  omega

/-! ### tables -/
end
section
variable {κ β : Type} [DecidableEq κ]
def getM (fs : List (κ × β)) (k : κ) : Option β := (fs.find? fun x => decide (x.1 = k)).map (·.2)
def putM (fs : List (κ × β)) (k : κ) (v : β) : List (κ × β) :=
  if (fs.any fun x => decide (x.1 = k)) = true then fs.map (fun x => if x.1 = k then (x.1, v) else x) else fs ++ [(k, v)]
theorem getM_pos {p : κ × β} {r : List (κ × β)} {k : κ} (e : p.1 = k) : getM (p :: r) k = some p.2 := by simp [getM, List.find?_cons, e]
theorem getM_neg {p : κ × β} {r : List (κ × β)} {k : κ} (e : ¬ p.1 = k) : getM (p :: r) k = getM r k := by simp [getM, List.find?_cons, e]
theorem getM_any (k : κ) : ∀ fs : List (κ × β), (fs.any fun x => decide (x.1 = k)) = (getM fs k).isSome
  | [] => rfl
  | p :: r => by
    rw [List.any_cons]
    by_cases e : p.1 = k
    · simp only [getM_pos e, decide_eq_true e, Bool.true_or, Option.isSome_some]
    · rw [getM_neg e, decide_eq_false e, Bool.false_or]; exact getM_any k r
theorem getM_mem : ∀ {fs : List (κ × β)} {k : κ} {v : β}, getM fs k = some v → (k, v) ∈ fs
  | [], _, _, h => by cases h
  | p :: r, k, v, h => by
    by_cases e : p.1 = k
    · rw [getM_pos e] at h
      have : p = (k, v) := by
        rw [← Option.some.inj h, ← e]
      rw [this]
      exact List.mem_cons_self
    · rw [getM_neg e] at h
      exact List.mem_cons_of_mem _ (getM_mem h)
theorem getM_some_of_mem : ∀ {fs : List (κ × β)} {k : κ} {v : β}, (k, v) ∈ fs → ∃ v', getM fs k = some v'
  | [], _, _, h => by cases h
  | p :: r, k, v, h => by
    by_cases e : p.1 = k
    · exact ⟨p.2, getM_pos e⟩
    · rw [getM_neg e]
      rcases List.mem_cons.mp h with q | q
      · exact absurd (by rw [← q]) e
      · exact getM_some_of_mem q
theorem getM_map (k j : κ) (y : β) : ∀ fs : List (κ × β), getM (fs.map fun x => if x.1 = k then (x.1, y) else x) j = (getM fs j).map fun x => if j = k then y else x
  | [] => rfl
  | p :: r => by
    have ih := getM_map k j y r
    rw [List.map_cons]
    by_cases h : p.1 = k
    · rw [if_pos h]
      by_cases e : p.1 = j
      · rw [getM_pos (p := (p.1, y)) e, getM_pos e, Option.map_some, if_pos (e.symm.trans h)]
      · rw [getM_neg (p := (p.1, y)) e, getM_neg e, ih]
    · rw [if_neg h]
      by_cases e : p.1 = j
      · rw [getM_pos (p := p) e, getM_pos e, Option.map_some, if_neg (fun z => h (e.trans z))]
      · rw [getM_neg (p := p) e, getM_neg e, ih]
theorem getM_snoc (k j : κ) (y : β) : ∀ fs : List (κ × β), getM fs k = none → getM (fs ++ [(k, y)]) j = if j = k then some y else getM fs j
  | [], _ => by
    by_cases e : k = j
    · rw [if_pos e.symm]; exact getM_pos (p := (k, y)) e
    · rw [if_neg (fun z => e z.symm)]; exact getM_neg (p := (k, y)) e
  | p :: r, hn => by
    rw [List.cons_append]
    have hk : ¬ p.1 = k := fun z => by rw [getM_pos z] at hn; cases hn
    rw [getM_neg hk] at hn
    have ih := getM_snoc k j y r hn
    by_cases e : p.1 = j
    · rw [getM_pos e, getM_pos e, if_neg (fun z => hk (e.trans z))]
    · rw [getM_neg e, getM_neg e, ih]
theorem getM_put (fs : List (κ × β)) (k j : κ) (y : β) : getM (putM fs k y) j = if j = k then some y else getM fs j := by
  unfold putM
  by_cases a : (fs.any fun x => decide (x.1 = k)) = true
  · rw [if_pos a, getM_map]
    rw [getM_any] at a
    by_cases e : j = k
    · obtain ⟨x, hx⟩ := Option.isSome_iff_exists.mp a
      rw [if_pos e, e, hx, Option.map_some, if_pos rfl]
    · rw [if_neg e]
      cases getM fs j with
      | none => rfl
      | some x => rw [Option.map_some, if_neg e]
  · rw [if_neg a]
    refine getM_snoc k j y fs ?_
    rw [getM_any] at a
    cases q : getM fs k with
    | none => rfl
    | some x => rw [q] at a; exact (a rfl).elim
theorem putM_len (fs : List (κ × β)) (k : κ) (v : β) : (putM fs k v).length ≤ fs.length + 1 := by
  unfold putM
  split
  · rw [List.length_map]; omega
  · rw [List.length_append, List.length_cons, List.length_nil]; omega
theorem putM_mem {fs : List (κ × β)} {k : κ} {v : β} {x : κ × β} (h : x ∈ putM fs k v) : x ∈ fs ∨ x = (k, v) := by
  unfold putM at h
  split at h
  · obtain ⟨y, hy, e⟩ := List.mem_map.mp h
    by_cases q : y.1 = k
    · rw [if_pos q] at e
      exact .inr (by rw [← e, q])
    · rw [if_neg q] at e
      exact .inl (e ▸ hy)
  · rcases List.mem_append.mp h with q | q
    · exact .inl q
    · exact .inr (List.mem_singleton.mp q)
end
section
variable {κ : Type} [DecidableEq κ]
/-- the less of the two is put -/
def mnC (o : Option Int) (c : Int) : Int := if o.getD c < c then o.getD c else c
def putL (fs : List (κ × Int)) (k : κ) (c : Int) : List (κ × Int) := putM fs k (mnC (getM fs k) c)
theorem mnC_le (o : Option Int) (c : Int) : mnC o c ≤ c := by
  unfold mnC
  split <;> omega
theorem mnC_old {v : Int} (c : Int) : mnC (some v) c ≤ v := by
  unfold mnC
  rw [Option.getD_some]
  split <;> omega
theorem mnC_or (o : Option Int) (c : Int) : mnC o c = c ∨ o = some (mnC o c) := by
  cases o with
  | none =>
    left
    unfold mnC
    rw [Option.getD_none]
    split <;> rfl
  | some v =>
    unfold mnC
    rw [Option.getD_some]
    split
    · exact .inr rfl
    · exact .inl rfl
theorem putL_len (fs : List (κ × Int)) (k : κ) (c : Int) : (putL fs k c).length ≤ fs.length + 1 := putM_len _ _ _
theorem putL_sound {Sd : κ → Int → Prop} {fs : List (κ × Int)} {k : κ} {c : Int} (h : ∀ x ∈ fs, Sd x.1 x.2) (hk : Sd k c) : ∀ x ∈ putL fs k c, Sd x.1 x.2 := fun x hx => by
  rcases putM_mem hx with q | q
  · exact h x q
  · rw [q]
    rcases mnC_or (getM fs k) c with e | e
    · show Sd k (mnC (getM fs k) c)
      rw [e]
      exact hk
    · exact h _ (getM_mem e)
def Trk (Tk : κ → Int → Prop) (fs : List (κ × Int)) : Prop := ∃ k c, getM fs k = some c ∧ Tk k c
theorem putL_old {Tk : κ → Int → Prop} (mono : ∀ k c c', Tk k c → c' ≤ c → Tk k c') {fs : List (κ × Int)} {k : κ} {c : Int} (h : Trk Tk fs) : Trk Tk (putL fs k c) := by
  obtain ⟨j, d, e, t⟩ := h
  by_cases q : j = k
  · subst q
    refine ⟨j, mnC (getM fs j) c, by unfold putL; rw [getM_put, if_pos rfl], mono _ _ _ t ?_⟩
    rw [e]
    exact mnC_old c
  · exact ⟨j, d, by unfold putL; rw [getM_put, if_neg q]; exact e, t⟩
theorem putL_new {Tk : κ → Int → Prop} (mono : ∀ k c c', Tk k c → c' ≤ c → Tk k c') {fs : List (κ × Int)} {k : κ} {c : Int} (h : Tk k c) : Trk Tk (putL fs k c) :=
  ⟨k, mnC (getM fs k) c, by unfold putL; rw [getM_put, if_pos rfl], mono _ _ _ h (mnC_le _ c)⟩
end
end K44

/-! Rules that the layer lacks: min of texts, sorted of a tuple of texts, a display with one tuple key, remove of a text. -/
namespace K44
open PySem PySem.Spec PyProof.Rows L2

/-! ### the order of texts -/
def ltS (a b : Str) : Prop := a.cps.toList < b.cps.toList
instance (a b : Str) : Decidable (ltS a b) := inferInstanceAs (Decidable (a.cps.toList < b.cps.toList))
theorem ltS_irrefl (a : Str) : ¬ ltS a a := List.lt_irrefl _
theorem ltS_trans {a b c : Str} (h : ltS a b) (h' : ltS b c) : ltS a c := List.lt_trans h h'
theorem ltS_tri {a b : Str} (h : ¬ ltS a b) (h' : ¬ ltS b a) : a = b := by
  have e : a.cps.toList = b.cps.toList := List.le_antisymm (List.not_lt.mp h') (List.not_lt.mp h)
  cases a
  cases b
  simp only at e
  rw [Array.toList_inj.mp e]

/-! ### min of a list of texts -/
theorem best_str (f : Nat → Str) : ∀ k, argBest (fun i j => decide (ltS (f i) (f j))) k ≤ k ∧ ∀ j, j ≤ k → ¬ ltS (f j) (f (argBest (fun i j => decide (ltS (f i) (f j))) k))
  | 0 => ⟨Nat.le_refl _, fun j hj => by
    have : j = 0 := by omega
    subst this
    exact ltS_irrefl _⟩
  | k + 1 => by
    obtain ⟨h1, h2⟩ := best_str f k
    by_cases q : ltS (f (k + 1)) (f (argBest (fun i j => decide (ltS (f i) (f j))) k))
    · have e : argBest (fun i j => decide (ltS (f i) (f j))) (k + 1) = k + 1 := by
        unfold argBest
        rw [if_pos (decide_eq_true q)]
      rw [e]
      refine ⟨Nat.le_refl _, fun j hj z => ?_⟩
      by_cases hjk : j = k + 1
      · subst hjk
        exact ltS_irrefl _ z
      · exact h2 j (by omega) (ltS_trans z q)
    · have e : argBest (fun i j => decide (ltS (f i) (f j))) (k + 1) = argBest (fun i j => decide (ltS (f i) (f j))) k := by
        show (if _ then _ else _) = _
        exact if_neg (by dsimp only; rw [decide_eq_false q]; decide)
      rw [e]
      refine ⟨by omega, fun j hj => ?_⟩
      by_cases hjk : j = k + 1
      · subst hjk
        exact q
      · exact h2 j (by omega)
theorem cmpOf_str {prog : Program} {w : World} {A : Around} {vs : List Value} {ss : List Str} (hs : Vals (ss.map V.str) vs) :
    CmpOf prog w A .Lt (fun i v => vs.toArray[i]? = some v) (fun i j => decide (ltS (ss.getD i ⟨#[]⟩) (ss.getD j ⟨#[]⟩))) := fun i j vi vj s Q E hi hj h => by
  have g : ∀ {i : Nat} {v : Value}, vs.toArray[i]? = some v → ∃ t, v = .str (ss.getD i ⟨#[]⟩) t := fun {i v} e => by
    have e' : vs[i]? = some v := by simpa using e
    have hl := hs.length
    rw [List.length_map] at hl
    have hi : i < ss.length := by
      have := (List.getElem?_eq_some_iff.mp e').1
      omega
    obtain ⟨u, e2, r⟩ := hs.get (i := i) (x := V.str ss[i]) (by rw [List.getElem?_map, List.getElem?_eq_getElem hi]; rfl)
    rw [e'] at e2
    obtain ⟨t, rfl⟩ := r
    refine ⟨t, ?_⟩
    rw [Option.some.inj e2, List.getD_eq_getElem?_getD, List.getElem?_eq_getElem hi]
    rfl
  obtain ⟨t, rfl⟩ := g hi
  obtain ⟨u, rfl⟩ := g hj
  exact (PyProof.Rows.lt_str h : wpAny (model prog w) A (compareOp .Lt _ _) Q E s)
section
variable {X : Cx}
def rMinS (K : PySem.W.Frag) : List V → Hp → VK → Prop := fun vs H Q => ∃ (a : Addr) (ss : List Str), vs = [V.ref a] ∧ SqL K H a (ss.map V.str) ∧ 0 < ss.length ∧ ∀ m, m ∈ ss → (∀ y, y ∈ ss → ¬ ltS y m) → Q (.str m) H
theorem cr_minS (hc : X.calm = true) : CallR X (.builtin "min") (rMinS X.K) := by
  intro pins s σ H vs us Q I r h
  obtain ⟨a, ss, rfl, hs, hne, q⟩ := h
  obtain ⟨its, rv, hl, _⟩ := I.list hs
  rw [Vals.ref1 r]
  have hh := I.ok.hd hc
  have hlen := rv.length
  rw [List.length_map] at hlen
  have hl2 := hl.isList
  have hlt : a < s.heap.objs.size := by obtain ⟨_, e, _⟩ := hl2; exact Heap.lt_size e
  refine call_min_walk (wpAny_pyIter_list hl2 ?_)
  refine ⟨_, _, _, _, _, _, _, rfl, Walks.list (A := X.A.in1) hh _ a (Nat.ne_of_lt hlt) its.toArray, ⟨⟨_, Heap.get?_push_size _ rfl, rfl, rfl⟩, hl2.push _⟩, fun b hb => ?_, ?_, cmpOf_str rv, fun v h' tk hP hk => ?_⟩
  · show b < (s.heap.push _).objs.size
    rw [Heap.size_push]
    rcases List.mem_cons.mp hb with rfl | hb
    · exact Nat.lt_succ_self _
    · rcases List.mem_cons.mp hb with rfl | hb
      · exact Nat.lt_succ_of_lt hlt
      · cases hb
  · rw [List.size_toArray]
    omega
  · have hsz : its.toArray.size - 1 = ss.length - 1 := by rw [List.size_toArray, ← hlen]
    rw [hsz] at hP
    obtain ⟨b1, b2⟩ := best_str (fun i => ss.getD i ⟨#[]⟩) (ss.length - 1)
    generalize hm : argBest (fun i j => decide (ltS (ss.getD i ⟨#[]⟩) (ss.getD j ⟨#[]⟩))) (ss.length - 1) = m at hP b1 b2
    have hml : m < ss.length := by omega
    have e' : its[m]? = some v := by simpa using hP
    obtain ⟨u, e2, r2⟩ := rv.get (i := m) (x := V.str ss[m]) (by rw [List.getElem?_map, List.getElem?_eq_getElem hml]; rfl)
    rw [e'] at e2
    obtain rfl := Option.some.inj e2
    have gd : ∀ j (hj : j < ss.length), ss.getD j ⟨#[]⟩ = ss[j] := fun j hj => by
      rw [List.getD_eq_getElem?_getD, List.getElem?_eq_getElem hj]
      rfl
    refine ⟨.str ss[m], H, I.kept (PySem.old_kept hk), r2, q _ (List.getElem_mem hml) fun y hy => ?_⟩
    obtain ⟨j, hj, rfl⟩ := List.getElem_of_mem hy
    have := b2 j (by omega)
    simp only [gd j hj, gd m hml] at this
    exact this
end

/-! ### sorted of a tuple of texts -/
section
variable {prog : Program} {w : World} {A : Around} {E : Value → Shared → Prop} {s : Shared}
theorem sorted_tup_strs {t : Addr} {vs : List Value} {ss : List Str} {Q : Value → Shared → Prop} (ht : IsTup s.heap t vs.toArray) (hS : StrsAre vs ss) (h64 : vs.length < 64)
    (h : ∀ (h1 : Heap) (out : Array Value) (ss' : List Str), (∀ b o, s.heap.get? b = some o → h1.get? b = some o) → StrsAre out.toList ss' → ss'.Perm ss → sortedS ss' = true →
      Q (.ref h1.objs.size) { s with heap := sortedHeap (h1.push (seqObj "list" vs.toArray 0)) h1.objs.size vs out }) :
    wpAny (model prog w) A (call (.builtin "sorted") [.ref t]) Q E s := by
  obtain ⟨o, ho, hc, n, hd⟩ := id ht
  refine Calls.call_function_entry kind_sorted plain_sorted entry_sorted (args_sorted1 _) ?_
  unfold Builtin.«sorted»
  refine wpAny_bind (m := checkCount "sorted" 1 1 _) (wpAny_pure ?_)
  refine wpAny_bind (wpAny_collect_seq t (.inr rfl) ho hc hd (fun h1 k1 => ?_) (by rw [List.size_toArray, sizeLine_eq]; omega))
  refine wpAny_bind (wpAny_newList ?_)
  have hoL : (h1.push (seqObj "list" vs.toArray 0)).get? h1.objs.size = some (seqObj "list" vs.toArray 0) := Heap.get?_push_size _ rfl
  show wpAny _ _ _ _ _ { s with heap := h1.push (seqObj "list" vs.toArray 0) }
  refine wpAny_bind (wpAny_holding (wpAny_call_entry slot_list_sort ⟨_, hoL, rfl⟩ entry_list_sort (list_sort_treeK strKind_oneLt hoL hS.keysOf (fun v₁ v₂ rest e => keyKind_strs (by rw [← e]; exact hS)) h64 fun st' hp hs => ⟨_, rfl, ?_⟩) (args_list_sort _)))
  obtain ⟨ss', h1', h2', h3'⟩ := sorted_out_str hS hp hs
  exact wpAny_pure ⟨_, rfl, h h1 _ ss' k1 h1' h2' h3'⟩
end
section
variable {X : Cx}
def rSortedTS (K : PySem.W.Frag) : List V → Hp → VK → Prop := fun vs H Q => ∃ (a : Addr) (xs : List Str), vs = [V.ref a] ∧ SqT K H a (xs.map V.str) ∧ xs.length < 64 ∧
  ∀ (ys : List Str) (p : Addr), ys.Perm xs → H p = none → Q (.ref p) (upd H p (.lst (ys.map V.str)))
theorem cr_sortedTS : CallR X (.builtin "sorted") (rSortedTS X.K) := by
  intro pins s σ H vs us Q I r h
  obtain ⟨a, xs, rfl, hs, h64, q⟩ := h
  obtain ⟨its, rv, ht, _⟩ := I.tuple hs
  rw [Vals.ref1 r]
  have hlen0 := rv.length
  rw [List.length_map] at hlen0
  refine sorted_tup_strs ht rv.strs (by rw [← hlen0]; exact h64) fun h1 out ys k1 e1 e2 e3 => ?_
  have hoL : (h1.push (seqObj "list" its.toArray 0)).get? h1.objs.size = some (seqObj "list" its.toArray 0) := Heap.get?_push_size _ rfl
  obtain ⟨ep, he'⟩ := sortedHeap_at (vs := its) (out := out) hoL
  have hlen : (ys.map V.str).length ≤ sizeLine := by rw [List.length_map, e2.length_eq]; exact small64 h64
  have I1 := I.kept (t' := s.toks) k1
  refine ⟨.ref _, upd H h1.objs.size (.lst (ys.map V.str)), I1.laid (t' := s.toks) (fun b o hb => ?_) (Nat.le_refl _) ⟨hlen, out.toList, ep, vals_of_strs e1, he'⟩, rfl, q ys _ e2 (I1.hok.fresh (Nat.le_refl _))⟩
  have hlt := Heap.lt_size hb
  rw [sortedHeap_old (Nat.ne_of_lt hlt) (by rw [Heap.size_push]; exact Nat.lt_succ_of_lt hlt)]
  exact Heap.get?_push_of_some _ hb
end

/-! ### {k: v}, k a tuple of ints and texts -/
def tDispT1 (tk tv : TE) : TE := fun σ H Q => ∀ p, H p = none → tk σ (upd H p (.dT [])) fun x H1 => tv σ H1 fun y H2 => ∃ (b : Addr) (ks : List Key), x = .ref b ∧ H2 b = some (.tup (ks.map kV)) ∧ H2 p = some (.dT []) ∧ Q (.ref p) (upd H2 p (.dT [(ks, y)]))
theorem dict_one {prog : Program} {w : World} {A : Around} {E : Value → Shared → Prop} {s : Shared} {env : Env} {k v : Expr} {pos : Pos} {Q : Value → Shared → Prop} (hu : A.units + 1 < cLine)
    (h : wpAny (model prog w) A (eval k env) (fun kv s1 => wpAny (model prog w) A (eval v env) (fun vv s2 => ∃ (b : Addr) (ks : List Key), kv = .ref b ∧ (tupleKind (mixKind prog w)).is s2.heap ks b ∧ s2.heap.DictOfH (tupleKind (mixKind prog w)) s.heap.objs.size [] ∧
      ∀ h' tk, h'.DictOfH (tupleKind (mixKind prog w)) s.heap.objs.size [(ks, b, vv)] → Heap.SameBut s.heap.objs.size s2.heap h' → Q (.ref s.heap.objs.size) { s2 with heap := h', toks := tk }) E s1) E
      { s with heap := s.heap.push { cls := .type "dict", data := .dict #[] } }) :
    wpAny (model prog w) A (eval (.Dict [some k] [v] pos) env) Q E s := by
  rw [arm_eval_Dict, zip_pairTrees [some k] [v] env pos rfl rfl, dictDisplay_pairs (pairTrees [some k] [v] env pos) (by intro e; cases e) (show 1 < 17 by decide)]
  refine wpAny_bind (wpAny_standAt (wpAny_bind ?_))
  refine wpAny_subDictH (knd := tupleKind (mixKind prog w)) (show A.units < cLine from Nat.lt_of_succ_lt hu) (show 1 ≤ 15 by decide) ?_
  refine pairTrees_cons_walk (thn h fun kv s1 h1 => thn h1 fun vv s2 h2 => pairTrees_nil_walk ?_)
  obtain ⟨b, ks, rfl, hb, hd, hq⟩ := h2
  exact ⟨[(ks, b, vv)], ⟨rfl, rfl, hb, True.intro⟩, hd, fun h' tk dd hs => wpAny_pure (hq h' tk dd hs)⟩
theorem pe_dispT1 {X : Cx} {pos : Pos} {k v : Expr} {tk tv : TE} (hu : X.A.units + 1 < cLine) (hk : PE X k tk) (hv : PE X v tv) : PE X (.Dict [some k] [v] pos) (tDispT1 tk tv) := by
  refine ⟨fun pins s σ H Q I q => ?_⟩
  have hn := I.hok.fresh (Nat.le_refl s.heap.objs.size)
  have I1 := I.laid (a := s.heap.objs.size) (o := .dT []) (h' := s.heap.push { cls := .type "dict", data := .dict #[] }) (t' := s.toks) (fun _ _ q => Heap.get?_push_of_some _ q) (Nat.le_refl _) (dt_empty s.heap I.big)
  refine dict_one hu (thn (hk.run pins _ σ _ _ I1 (q _ hn)) fun u s1 ⟨x, H1, I2, rx, q1⟩ => thn (hv.run pins s1 σ H1 _ I2 q1) fun u2 s2 ⟨y, H2, I3, ry, q2⟩ => ?_)
  obtain ⟨b, ks, rfl, hb, hp, q3⟩ := q2
  cases (show u = Value.ref b from rx)
  obtain ⟨z, hd, xs0, r0, dd⟩ := dt_of I3.hok hp
  cases r0
  refine ⟨b, ks, rfl, key_of I3.hok hb, dd, fun h' tk dd' hs => ⟨.ref s.heap.objs.size, _, ?_, rfl, q3⟩⟩
  obtain ⟨ob, es, ep, hq, h2, h3, h4, h5, h6⟩ := dd'
  refine d_write I3 (by rw [hp]; exact True.intro) hs ⟨ob, hq⟩ ⟨(by rw [sizeLine_eq]; exact (by decide : 1 ≤ 16777216)), hd, [(ks, b, u2)], .cons ⟨rfl, ?_, ry⟩ .nil, ob, es, ep, hq, h2, h3, h4, h6⟩
  rw [upd_ne (ne_of hb hp (fun z => nomatch z))]
  exact hb

/-! ### remove of a text -/
section
variable {X : Cx}
theorem str_at {ss : List Str} {its : List Value} (r : Vals (ss.map V.str) its) {j : Nat} {z : Str} (h : ss[j]? = some z) : ∃ t, its[j]? = some (.str z t) := by
  obtain ⟨u, e, t, rfl⟩ := r.get (i := j) (x := V.str z) (by rw [List.getElem?_map, h]; rfl)
  exact ⟨t, e⟩
theorem first_str : ∀ {ss : List Str} {k : Str}, k ∈ ss → ∃ j, j < ss.length ∧ ss[j]? = some k ∧ (∀ i, i < j → ss[i]? ≠ some k) ∧ ss.eraseIdx j = ss.erase k
  | [], k, h => absurd h (by simp)
  | a :: r, k, h => by
    by_cases e : a = k
    · subst e
      refine ⟨0, Nat.succ_pos _, rfl, fun i hi => absurd hi (Nat.not_lt_zero _), ?_⟩
      rw [List.erase_cons_head] <;> rfl
    · have hr : k ∈ r := by
        rcases List.mem_cons.mp h with z | z
        · exact absurd z.symm e
        · exact z
      obtain ⟨j, h1, h2, h3, h4⟩ := first_str hr
      refine ⟨j + 1, Nat.succ_lt_succ h1, h2, fun i hi => ?_, ?_⟩
      · cases i with
        | zero =>
          intro z
          exact e (Option.some.inj z)
        | succ i => exact h3 i (Nat.lt_of_succ_lt_succ hi)
      · rw [List.erase_cons_tail (by rw [beq_iff_eq]; exact e), ← h4] <;> rfl
def eqs (k : Str) : Value → Bool
  | .str z _ => z.cps.toList == k.cps.toList
  | _ => false
theorem eqs_gives {k : Str} {t : Tok} : ∀ {vs : List Value} {ss : List Str}, Vals (ss.map V.str) vs → ∀ y, y ∈ vs → MeetsSeq.EqGives y (.str k t) (eqs k y)
  | [], _, _, _, hy => nomatch hy
  | v :: vs, [], r, _, _ => nomatch r
  | v :: vs, z :: ss, r, y, hy => by
    cases r with
    | cons r1 r2 =>
      obtain ⟨tt, rfl⟩ := r1
      rcases List.mem_cons.mp hy with rfl | hy
      · exact SeqRoads2.EqGives.str z k tt t
      · exact eqs_gives r2 y hy
theorem map_eraseIdxS (f : Str → V) : ∀ (ns : List Str) (j : Nat), (ns.map f).eraseIdx j = (ns.eraseIdx j).map f
  | [], _ => rfl
  | _ :: _, 0 => rfl
  | n :: r, j + 1 => by
    show f n :: (r.map f).eraseIdx j = f n :: (r.eraseIdx j).map f
    rw [map_eraseIdxS f r j]
def rRemS : V → List V → Hp → VK → Prop := fun x xs H Q => ∃ (l : Addr) (ss : List Str) (k : Str), x = .ref l ∧ xs = [.str k] ∧ H l = some (.lst (ss.map V.str)) ∧ k ∈ ss ∧ Q .non (upd H l (.lst ((ss.erase k).map V.str)))
theorem mt_removeS : MtM X "list.remove" rRemS := by
  intro pins s σ H x xs v us Q I rx rxs h
  obtain ⟨l, ss, k, rfl, rfl, hH, hk, q⟩ := h
  cases rx
  obtain ⟨u, rfl, ru⟩ := rxs.one
  obtain ⟨t, rfl⟩ := ru
  obtain ⟨z, its, n, r, hl, e⟩ := I.lstM hH
  rw [List.length_map] at hl z
  obtain ⟨j, j1, j2, j3, j4⟩ := first_str hk
  have hjl : j < its.toArray.size := by rw [List.size_toArray]; omega
  refine call_meets PySem.F.slot_list_remove ⟨_, e, rfl⟩ PySem.F.entry_list_remove (PySem.F.args_list_remove_2 _ _)
    (MeetsSeq.list_remove l its.toArray n (.str k t) (eqs k) (fun y hy => eqs_gives r y (by simpa using hy)) j hjl ?_ ?_ (by rw [List.size_toArray]; omega)) ⟨e, ?_⟩
  · obtain ⟨tj, hjt⟩ := str_at r j2
    obtain ⟨h1, h2⟩ := List.getElem?_eq_some_iff.mp hjt
    have e1 : its.toArray[j] = .str k tj := by simpa using h2
    rw [e1]
    exact beq_self_eq_true _
  · intro m hm hmj
    have hmn : m < ss.length := by omega
    obtain ⟨tm, hmt⟩ := str_at r (List.getElem?_eq_getElem hmn)
    obtain ⟨h1, h2⟩ := List.getElem?_eq_some_iff.mp hmt
    have e1 : its.toArray[m] = .str ss[m] tm := by simpa using h2
    rw [e1]
    refine beq_eq_false_iff_ne.mpr fun e2 => j3 m hmj ?_
    rw [List.getElem?_eq_getElem hmn]
    have e3 : ss[m].cps = k.cps := Array.toList_inj.mp e2
    congr 1
    cases hz : ss[m]
    rw [hz] at e3
    cases k
    simp only at e3
    rw [e3]
  · have rr := r.eraseIdx j
    rw [map_eraseIdxS, j4] at rr
    refine ⟨.non, _, I.lset (its' := its.eraseIdx j) hH e ?_ rr ?_, rfl, q⟩
    · show its.toArray.eraseIdxIfInBounds j = (its.eraseIdx j).toArray
      rw [List.eraseIdxIfInBounds_toArray]
    · rw [List.length_map]
      have := List.length_erase_le (a := k) (l := ss)
      omega

/-! ### a text in a list of texts -/
theorem inV_str (z : Str) : ∀ ss : List Str, inV (.str z) (ss.map V.str) = decide (z ∈ ss)
  | [] => by simp [inV]
  | a :: r => by
    have ih := inV_str z r
    unfold inV at ih ⊢
    rw [List.map_cons, List.any_cons, ih]
    show ((a == z) || decide (z ∈ r)) = decide (z ∈ a :: r)
    by_cases e : a = z
    · subst e
      simp
    · rw [beq_eq_false_iff_ne.mpr e, Bool.false_or]
      have e' : ¬ z = a := fun q => e q.symm
      simp [List.mem_cons, e']
theorem flat_strs (ss : List Str) : (ss.map V.str).all flatV = true := by
  rw [List.all_map]
  exact List.all_eq_true.mpr fun _ _ => rfl
end
end K44

/-! The text by its places, the scopes, small lemmas. -/
namespace K44
open PySem PySem.Spec PyProof.Rows L2
def topS (i : Nat) : Stmt := PySem.Challenge.pw_leasehall_k44_whole_farthest_is_least.main.body.getD i (.Pass ⟨0, 0, 0, 0⟩)
abbrev sHeld : Stmt := topS 1
abbrev sNext : Stmt := topS 2
abbrev sFar : Stmt := topS 3
abbrev sRemBy : Stmt := topS 4
abbrev sFarRem : Stmt := topS 5
abbrev sMix : Stmt := topS 7
abbrev sNum : Stmt := topS 8
abbrev sState : Stmt := topS 9
abbrev sDraw : Stmt := topS 10
abbrev sKeys : Stmt := topS 11
abbrev sServed : Stmt := topS 12
abbrev sDrawn : Stmt := topS 13
abbrev sLeast : Stmt := topS 14
abbrev sLNext : Stmt := topS 15
abbrev sIsFar : Stmt := topS 16
abbrev sLaw : Stmt := topS 17
theorem scHeld : FnScope ["held", "places", "key", "removed", "other"] ["held", "places", "key", "removed"] (defScope sHeld) := ⟨rfl, rfl, rfl, by decide +kernel, rfl, by decide +kernel, by decide +kernel⟩
theorem scNext : FnScope ["keys", "after", "key", "index"] ["keys", "after", "key"] (defScope sNext) := ⟨rfl, rfl, rfl, by decide +kernel, rfl, by decide +kernel, by decide +kernel⟩
theorem scFar : FnScope ["keys", "at", "held", "best", "key"] ["keys", "at", "held"] (defScope sFar) := ⟨rfl, rfl, rfl, by decide +kernel, rfl, by decide +kernel, by decide +kernel⟩
theorem scRemBy : FnScope ["keys", "places", "choose", "held", "removals", "index", "removed"] ["keys", "places", "choose"] (defScope sRemBy) := ⟨rfl, rfl, rfl, by decide +kernel, rfl, by decide +kernel, by decide +kernel⟩
theorem scFarRem : FnScope ["keys", "places"] ["keys", "places"] (defScope sFarRem) := ⟨rfl, rfl, rfl, by decide +kernel, rfl, by decide +kernel, by decide +kernel⟩
theorem scMix : FnScope ["_law_cell", "_law_number_here"] ["_law_cell"] (defScope sMix) := ⟨rfl, rfl, rfl, by decide +kernel, rfl, by decide +kernel, by decide +kernel⟩
theorem scNum : FnScope ["_law_cell", "_law_first"] ["_law_cell"] (defScope sNum) := ⟨rfl, rfl, rfl, by decide +kernel, rfl, by decide +kernel, by decide +kernel⟩
theorem scState : FnScope ["_law_script"] ["_law_script"] (defScope sState) := ⟨rfl, rfl, rfl, by decide +kernel, rfl, by decide +kernel, by decide +kernel⟩
theorem scDraw : FnScope ["_law_state_here", "_law_many", "_law_value"] ["_law_state_here", "_law_many"] (defScope sDraw) := ⟨rfl, rfl, rfl, by decide +kernel, rfl, by decide +kernel, by decide +kernel⟩
theorem scKeys : FnScope ["_law_state_here", "_law_many", "_law_kinds", "_law_k"] ["_law_state_here", "_law_many"] (defScope sKeys) := ⟨rfl, rfl, rfl, by decide +kernel, rfl, by decide +kernel, by decide +kernel⟩
theorem scServed : FnScope ["_law_keys_here", "_law_places", "_law_removals", "_law_held", "_law_fetches", "_law_k"] ["_law_keys_here", "_law_places", "_law_removals"] (defScope sServed) := ⟨rfl, rfl, rfl, by decide +kernel, rfl, by decide +kernel, by decide +kernel⟩
theorem scDrawn : FnScope ["_law_state_here", "_law_keys_here", "_law_places", "_law_held", "_law_removals", "_law_key", "_law_removed"] ["_law_state_here", "_law_keys_here", "_law_places"] (defScope sDrawn) := ⟨rfl, rfl, rfl, by decide +kernel, rfl, by decide +kernel, by decide +kernel⟩
theorem scLeast : FnScope ["_law_keys_here", "_law_places", "_law_costs", "_law_key", "_law_following", "_law_held", "_law_options", "_law_removed", "_law_rest", "_law_found", "_law_cost", "_law_other"] ["_law_keys_here", "_law_places"] (defScope sLeast) := ⟨rfl, rfl, rfl, by decide +kernel, rfl, by decide +kernel, by decide +kernel⟩
theorem scLNext : FnScope ["_law_keys_here", "_law_at", "_law_key", "_law_k"] ["_law_keys_here", "_law_at", "_law_key"] (defScope sLNext) := ⟨rfl, rfl, rfl, by decide +kernel, rfl, by decide +kernel, by decide +kernel⟩
theorem scIsFar : FnScope ["_law_keys_here", "_law_places", "_law_removals", "_law_held", "_law_k", "_law_latest", "_law_key"] ["_law_keys_here", "_law_places", "_law_removals"] (defScope sIsFar) := ⟨rfl, rfl, rfl, by decide +kernel, rfl, by decide +kernel, by decide +kernel⟩
theorem scLaw : FnScope ["_law_script", "_law_state_here", "_law_keys_here", "_law_places", "_law_removals", "_law_fetches", "_law_k", "_law_other", "_law_short", "_law_few", "_law_least_here"] ["_law_script"] (defScope sLaw) := ⟨rfl, rfl, rfl, by decide +kernel, rfl, by decide +kernel, by decide +kernel⟩

/-! ### heaps -/
theorem same_upd {H : Hp} {p : Addr} {o : HO} (h : H p = none) : Same H (upd H p o) := fun b x e => by
  rw [upd_ne (ne_of_none e h)]
  exact e
/-- all but the object at a is as it was -/
def But (a : Addr) (H H' : Hp) : Prop := ∀ b o, b ≠ a → H b = some o → H' b = some o
theorem But.refl (a : Addr) (H : Hp) : But a H H := fun _ _ _ e => e
theorem But.trans {a : Addr} {H H1 H2 : Hp} (h : But a H H1) (h' : But a H1 H2) : But a H H2 := fun b o n e => h' b o n (h b o n e)
theorem Same.but {a : Addr} {H H' : Hp} (h : Same H H') : But a H H' := fun b o _ e => h b o e
theorem but_upd {a : Addr} {H : Hp} {o : HO} : But a H (upd H a o) := fun b x n e => by
  rw [upd_ne n]
  exact e
/-- the number of a place -/
def rv : Option Str → V
  | none => .non
  | some z => .str z
theorem flat_rv (r : Option Str) : flatV (rv r) = true := by cases r <;> rfl
theorem sz1000 {n : Nat} (h : n ≤ 1000) : n ≤ sizeLine := Nat.le_of_lt (small1000 h)
theorem get_str {ks : List Str} {i : Nat} {k : Str} (h : ks[i]? = some k) : (ks.map V.str)[i]? = some (.str k) := by
  rw [List.getElem?_map, h]
  rfl
end K44

/-! The program's defs. -/
namespace K44
open PySem PySem.Spec PyProof.Rows L2
section
variable {P : Program} {w : World} {K : PySem.W.Frag} {mg : Str → Option Value} {base : Heap}

/-- the place of the next use behind a place -/
def nxp (ks : List Str) (i : Nat) (k : Str) : Nat := i + 1 + ix (ks.drop (i + 1)) k
theorem ix_spec {β : Type} [DecidableEq β] (x : β) : ∀ (σ : List β) (j : Nat), j < σ.length → σ[j]? = some x → (∀ m, m < j → σ[m]? ≠ some x) → ix σ x = j
  | [], j, h, _, _ => absurd h (Nat.not_lt_zero _)
  | k :: σ, 0, _, e, _ => by
    have e : k = x := Option.some.inj e
    rw [e, ix_self]
  | k :: σ, j + 1, h, e, n => by
    have hk : k ≠ x := fun q => n 0 (Nat.succ_pos _) (by rw [q]; rfl)
    rw [ix_ne σ hk, ix_spec x σ j (Nat.lt_of_succ_lt_succ h) e fun m hm => n (m + 1) (Nat.succ_lt_succ hm)]
theorem ix_none {β : Type} [DecidableEq β] (x : β) : ∀ (σ : List β), (∀ m, m < σ.length → σ[m]? ≠ some x) → ix σ x = σ.length
  | [], _ => rfl
  | k :: σ, n => by
    have hk : k ≠ x := fun q => n 0 (Nat.succ_pos _) (by rw [q]; rfl)
    rw [ix_ne σ hk, ix_none x σ fun m hm => n (m + 1) (Nat.succ_lt_succ hm)]
    rfl

def spNext (K : PySem.W.Frag) : Sp := fun vs H Q _ => ∃ (a : Addr) (ks : List Str) (i : Nat) (k : Str), vs = [.ref a, .int (i : Int), .str k] ∧ SqL K H a (ks.map V.str) ∧ i < ks.length ∧ ks.length ≤ 1000 ∧ Q (.int (nxp ks i k : Nat)) H
theorem ok_next {f : Addr} {fd : FuncData} {k : Nat} (F : Fun K "next_use" "next_use" sNext f fd) (mr : mg "range" = none) (ml : mg "len" = none) : FnOk P w K mg base CX0 (k + 1) f fd ["keys", "after", "key"] (spNext K) := by
  refine F.ok scNext (fun vs H Q E h => ?_) (fun cdv A outer s H vs Q E hr h => ?_)
  · obtain ⟨a, ks, i, k, rfl, _⟩ := h
    rfl
  · obtain ⟨a, ks, i, k, rfl, hS, hi, hlen, q⟩ := h
    refine ⟨_, pss_cons (ps_for PassesOwn.never rfl (pi_range2 (by rfl) mr (pa_cons (pe_op op_add (pv 1) pe_int) (pa_cons (pe_callB call_len_seq (by rfl) ml PySem.boot_len (pa_cons (pv 0) pa_nil)) pa_nil)))
        (pg_name (i := 3) scNext.nd rfl (.inl rfl))
        (pss_one (ps_if (pt_cmpR op_eq (pe_ix ix_list (pv 0) (pv 3) (fun _ _ => rfl)) (pv 2) (nomark _)) (pss_one (ps_ret (pv 3))) pss_nil)))
      (pss_one (ps_ret (pe_callB call_len_seq (by rfl) ml PySem.boot_len (pa_cons (pv 0) pa_nil)))), ?_⟩
    have hl : (ks.map V.str).length = ks.length := List.length_map ..
    refine ⟨.int (i : Int), rfl, (i : Int), 1, rfl, rfl, .ref a, rfl, a, ks.map V.str, rfl, .inl hS, (i : Int) + 1, ((ks.map V.str).length : Int), rfl, ⟨by omega, by omega, by omega, by omega⟩, ?_⟩
    refine for_range (fun j σ H' => ∃ y3, σ = [some (.ref a), some (.int (i : Int)), some (.str k), y3] ∧ H' = H ∧ ∀ m, m < j → (ks.drop (i + 1))[m]? ≠ some k) ⟨none, rfl, rfl, fun m hm => absurd hm (Nat.not_lt_zero _)⟩ (fun j σ H' hj hP => ?_) fun σ H' hP => ?_
    · obtain ⟨y3, rfl, rfl, hn⟩ := hP
      have hj' : i + 1 + j < ks.length := by omega
      have g := List.getElem?_eq_getElem hj'
      have e1 : ((i : Int) + 1 + (j : Int)) = ((i + 1 + j : Nat) : Int) := by omega
      refine ⟨.ref a, rfl, _, rfl, a, _, _, _, rfl, rfl, hS, (by rw [e1]; exact atI_nat (get_str g)), .str k, rfl, rfl, _, rfl, ite2 (fun e => ?_) (fun e => ?_)⟩
      · have e2 : ks[i + 1 + j] = k := V.str.inj (of_decide_eq_true e)
        refine ⟨_, rfl, ?_⟩
        rw [e1]
        have e3 : ix (ks.drop (i + 1)) k = j := ix_spec k _ j (by rw [List.length_drop]; omega) (by rw [List.getElem?_drop, g, e2]) hn
        have q' := q
        unfold nxp at q'
        rw [e3] at q'
        exact q'
      · refine ⟨_, rfl, rfl, fun m hm => ?_⟩
        by_cases hmj : m = j
        · subst hmj
          rw [List.getElem?_drop, g]
          intro z
          exact e (decide_eq_true (by rw [Option.some.inj z]))
        · exact hn m (by omega)
    · obtain ⟨y3, rfl, rfl, hn⟩ := hP
      refine ⟨.ref a, rfl, a, ks.map V.str, rfl, .inl hS, ?_⟩
      have e3 : ix (ks.drop (i + 1)) k = ks.length - (i + 1) := by
        rw [ix_none k _ fun m hm => hn m (by rw [List.length_drop] at hm; omega), List.length_drop]
      unfold nxp at q
      rw [e3, show i + 1 + (ks.length - (i + 1)) = ks.length by omega] at q
      rw [hl]
      exact q
end
end K44

namespace K44
open PySem PySem.Spec PyProof.Rows L2
section
variable {P : Program} {w : World} {K : PySem.W.Frag} {mg : Str → Option Value} {base : Heap}

theorem dec_rv_none : decide (rv none = V.non) = true := decide_eq_true rfl
theorem dec_rv_some (z : Str) : decide (rv (some z) = V.non) = false := decide_eq_false (fun e => nomatch e)
/-- what is asked of one removal, no choice told -/
def Okn (p : Nat) (h : List Str) (k : Str) (r : Option Str) : Prop :=
  (k ∈ h ∧ r = none) ∨ (k ∉ h ∧ h.length < p ∧ r = none) ∨ (k ∉ h ∧ ¬ h.length < p ∧ ∃ z, r = some z ∧ z ∈ h)
def spHeld (K : PySem.W.Frag) : Sp := fun vs H Q _ => ∃ (a : Addr) (h : List Str) (p : Nat) (k : Str) (r : Option Str), vs = [.ref a, .int (p : Int), .str k, rv r] ∧ H a = some (.lst (h.map V.str)) ∧ h.Nodup ∧ h.length ≤ 100 ∧ Okn p h k r ∧
  ∀ H' b, Same H H' → H' b = some (.lst ((nxt h k r).map V.str)) → (b = a ∨ H b = none) → Q (.ref b) H'
theorem ok_held {f : Addr} {fd : FuncData} {k : Nat} (F : Fun K "held_after" "held_after" sHeld f fd) (ml : mg "len" = none) : FnOk P w K mg base CX0 (k + 1) f fd ["held", "places", "key", "removed"] (spHeld K) := by
  refine F.ok scHeld (fun vs H Q E h => ?_) (fun cdv A outer s H vs Q E hr h => ?_)
  · obtain ⟨a, h, p, k, r, rfl, _⟩ := h
    rfl
  · obtain ⟨a, h, p, k, r, rfl, hH, hnd, hlen, ok, q⟩ := h
    refine ⟨_, pss_cons (ps_if (pt_cmpR op_in_seq (pv 2) (pv 0) (by rfl))
        (pss_one (ps_ret (pe_ifExp (pt_cmpR op_notN (pv 3) pe_non (nomark _)) pe_non (pv 0)))) pss_nil)
      (pss_cons (ps_if (pt_cmpR op_lt (pe_callB call_len_seq (by rfl) ml PySem.boot_len (pa_cons (pv 0) pa_nil)) (pv 1) (nomark _))
        (pss_one (ps_ret (pe_ifExp (pt_cmpR op_notN (pv 3) pe_non (nomark _)) pe_non (pe_op op_cat (pv 0) (pe_lst (pa_cons (pv 2) pa_nil)))))) pss_nil)
      (pss_cons (ps_if (PW.pt (pw_or (pt_cmpR op_isN (pv 3) pe_non (nomark _)) (pw_or1 (pt_cmpR op_notIn_seq (pv 3) (pv 0) (by rfl)))))
        (pss_one (ps_ret pe_non)) pss_nil)
      (pss_one (ps_ret (pe_op op_cat
        (pe_lc (own := [("other", 4)]) (g := gName 4) rfl scHeld.nd (pi_list (pv 0)) (blkOk_by (N := ["held", "places", "key", "removed", "other"]) (sc := defScope sHeld) (by decide +kernel))
          (fun _ _ _ _ _ => pg_name (i := 4) scHeld.nd rfl (.inl rfl)) (fun _ _ _ _ _ => pts_one (pt_cmpR op_ne (pv 4) (pv 3) (nomark _))) (fun _ _ _ _ _ => pv 4))
        (pe_lst (pa_cons (pv 2) pa_nil))))))), ?_⟩
    have hS : SqL K H a (h.map V.str) := SqL.of hH
    -- if key in held
    refine ⟨.str k, rfl, .ref a, rfl, a, h.map V.str, rfl, .inl hS, rfl, flat_strs h, _, rfl, ?_⟩
    show if inV (.str k) (h.map V.str) = true then _ else _
    rw [inV_str]
    refine ite2 (fun e => ?_) (fun e => ?_)
    · have hk : k ∈ h := of_decide_eq_true e
      have hr0 : r = none := by
        rcases ok with ⟨_, e⟩ | ⟨n, _⟩ | ⟨n, _⟩
        · exact e
        · exact absurd hk n
        · exact absurd hk n
      subst hr0
      refine ⟨rv none, rfl, rfl, _, rfl, ?_⟩
      rw [dec_rv_none]
      refine iteF ⟨.ref a, rfl, q H a (Same.refl H) ?_ (.inl rfl)⟩
      unfold nxt
      rw [if_pos hk]
      exact hH
    · have hk : k ∉ h := fun z => e (decide_eq_true z)
      -- if len(held) < places
      refine ⟨.ref a, rfl, a, h.map V.str, rfl, .inl hS, .int (p : Int), rfl, _, _, rfl, rfl, _, rfl, ?_⟩
      rw [List.length_map]
      refine ite2 (fun e => ?_) (fun e => ?_)
      · have hp : h.length < p := by
          have := of_decide_eq_true e
          omega
        have hr0 : r = none := by
          rcases ok with ⟨n, _⟩ | ⟨_, _, e⟩ | ⟨_, n, _⟩
          · exact absurd n hk
          · exact e
          · exact absurd hp n
        subst hr0
        refine ⟨rv none, rfl, rfl, _, rfl, ?_⟩
        rw [dec_rv_none]
        refine iteF ⟨.ref a, rfl, .str k, rfl, sz1000 (show 1 ≤ 1000 by decide), fun c nc => ⟨a, c, h.map V.str, [.str k], rfl, rfl, ?_, upd_same, ?_, fun b nb => ?_⟩⟩
        · rw [upd_ne (ne_of_none hH nc)]
          exact hH
        · rw [List.length_map]
          exact sz1000 (show h.length + 1 ≤ 1000 by omega)
        · refine q _ b ((same_upd nc).trans (same_upd nb)) ?_ (.inr ((same_upd nc).free nb))
          rw [upd_same]
          unfold nxt
          rw [if_neg hk, List.map_append]
          rfl
      · have hp : ¬ h.length < p := fun z => e (decide_eq_true (by omega))
        obtain ⟨z, rfl, hz⟩ : ∃ z, r = some z ∧ z ∈ h := by
          rcases ok with ⟨n, _⟩ | ⟨_, n, _⟩ | ⟨_, _, e⟩
          · exact absurd n hk
          · exact absurd n hp
          · exact e
        -- if removed is None or removed not in held
        refine ⟨rv (some z), rfl, rfl, _, rfl, ?_⟩
        rw [dec_rv_some]
        refine iteF ⟨rv (some z), rfl, .ref a, rfl, a, h.map V.str, rfl, .inl hS, rfl, flat_strs h, _, rfl, ?_⟩
        show if (!inV (.str z) (h.map V.str)) = true then _ else _
        rw [inV_str]
        refine iteNS hz ?_
        -- [other for ..] + [key]
        refine ⟨.ref a, rfl, a, rfl, ⟨_, hS⟩, fun D nD => lc_list (xs := h.map V.str) (fun i H' => Same H H' ∧ H' D = some (.lst (((h.take i).filter fun x => decide (x ≠ z)).map V.str))) ⟨same_upd nD, upd_same⟩ (fun i H' _ hP => hP.1.seq hS) (fun i x H' hx hP => ?_) fun H' hP => ?_⟩
        · obtain ⟨sm, hD⟩ := hP
          rw [List.getElem?_map] at hx
          obtain ⟨y, hy, rfl⟩ := Option.map_eq_some_iff.mp hx
          have et : h.take (i + 1) = h.take i ++ [y] := by rw [List.take_add_one, hy]; rfl
          refine ⟨rfl, .str y, rfl, rv (some z), rfl, rfl, _, rfl, ite2 (fun e => ?_) (fun e => ?_)⟩
          · have hyz : y ≠ z := fun c => by
              subst c
              rw [show decide (V.str y = rv (some y)) = true from decide_eq_true rfl] at e
              exact Bool.noConfusion e
            refine ⟨.str y, rfl, _, hD, ?_, fun b o e => ?_, ?_⟩
            · rw [List.length_map]
              refine small1000 (Nat.le_trans (List.length_filter_le _ _) ?_)
              rw [List.length_take]
              omega
            · rw [upd_ne (ne_of_none e nD)]
              exact sm b o e
            · rw [upd_same, et, List.filter_append, List.map_append]
              rw [show List.filter (fun x => decide (x ≠ z)) [y] = [y] from List.filter_cons_of_pos (decide_eq_true hyz)]
              rfl
          · have hyz : y = z := by
              by_cases c : y = z
              · exact c
              · exact absurd (by rw [show decide (V.str y = rv (some z)) = false from decide_eq_false (fun q => c (V.str.inj q))]; rfl) e
            refine ⟨sm, ?_⟩
            rw [hD, et, List.filter_append, hyz]
            rw [show List.filter (fun x => decide (x ≠ z)) [z] = [] by simp]
            rw [List.append_nil]
        · obtain ⟨sm, hD⟩ := hP
          rw [List.length_map, List.take_length] at hD
          have ef : (h.filter fun x => decide (x ≠ z)) = h.erase z := by
            rw [hnd.erase_eq_filter]
            refine List.filter_congr fun x _ => ?_
            by_cases c : x = z
            · subst c
              simp
            · simp [c]
          rw [ef] at hD
          have hdl : (h.erase z).length ≤ h.length := List.length_erase_le
          refine ⟨.str k, rfl, sz1000 (show 1 ≤ 1000 by decide), fun c nc => ⟨D, c, (h.erase z).map V.str, [.str k], rfl, rfl, ?_, upd_same, ?_, fun b nb => ?_⟩⟩
          · rw [upd_ne (ne_of_none hD nc)]
            exact hD
          · rw [List.length_map]
            exact sz1000 (show (h.erase z).length + 1 ≤ 1000 by omega)
          · refine q _ b ((sm.trans (same_upd nc)).trans (same_upd nb)) ?_ (.inr ((sm.trans (same_upd nc)).free nb))
            rw [upd_same]
            unfold nxt
            rw [if_neg hk, List.map_append]
            rfl
end
end K44

namespace K44
open PySem PySem.Spec PyProof.Rows L2
theorem ltS_of_not {a b c : Str} (h : ltS a b) (h' : ¬ ltS c b) : ltS a c := by
  by_cases e : ltS b c
  · exact ltS_trans h e
  · rw [ltS_tri h' e]
    exact h
theorem rising_pw : ∀ (l : List Str) (p : Str), risingS p l = true → (∀ y ∈ l, ¬ ltS y p) ∧ l.Pairwise (fun a b => ¬ ltS b a)
  | [], _, _ => ⟨fun _ h => (nomatch h), List.Pairwise.nil⟩
  | x :: r, p, h => by
    have h : (!ltCps x.cps.toList p.cps.toList && risingS x r) = true := h
    rw [Bool.and_eq_true, Bool.not_eq_true', ltCps_eq] at h
    obtain ⟨h1, h2⟩ := h
    have hx : ¬ ltS x p := of_decide_eq_false h1
    obtain ⟨i1, i2⟩ := rising_pw r x h2
    refine ⟨fun y hy => ?_, List.pairwise_cons.mpr ⟨i1, i2⟩⟩
    rcases List.mem_cons.mp hy with e | hy
    · rw [e]
      exact hx
    · exact fun q => i1 y hy (ltS_of_not q hx)
theorem sorted_pw {l : List Str} (h : sortedS l = true) : l.Pairwise (fun a b => ¬ ltS b a) := by
  cases l with
  | nil => exact .nil
  | cons x r =>
    obtain ⟨h1, h2⟩ := rising_pw r x h
    exact List.pairwise_cons.mpr ⟨h1, h2⟩

/-- z is the best of the keys in l -/
def Bst (f : Str → Nat) (l : List Str) (o : Option Str) : Prop := match o with
  | none => l = []
  | some z => z ∈ l ∧ ∀ w ∈ l, f w ≤ f z ∧ (f w = f z → ¬ ltS w z)
theorem Bst.none {f : Str → Nat} {l : List Str} {y : Str} (h : Bst f l none) : Bst f (l ++ [y]) (some y) := by
  have e : l = [] := h
  subst e
  refine ⟨List.mem_cons_self, fun w hw => ?_⟩
  rw [List.mem_singleton.mp hw]
  exact ⟨Nat.le_refl _, fun _ => ltS_irrefl y⟩
theorem Bst.more {f : Str → Nat} {l : List Str} {z y : Str} (h : Bst f l (some z)) (g : f z < f y) : Bst f (l ++ [y]) (some y) := by
  refine ⟨List.mem_append_right _ List.mem_cons_self, fun w hw => ?_⟩
  rcases List.mem_append.mp hw with q | q
  · have := (h.2 w q).1
    exact ⟨by omega, fun e => by omega⟩
  · rw [List.mem_singleton.mp q]
    exact ⟨Nat.le_refl _, fun _ => ltS_irrefl y⟩
theorem Bst.keep {f : Str → Nat} {l : List Str} {z y : Str} (h : Bst f l (some z)) (g : ¬ f z < f y) (hs : ∀ x ∈ l, ¬ ltS y x) : Bst f (l ++ [y]) (some z) := by
  refine ⟨List.mem_append_left _ h.1, fun w hw => ?_⟩
  rcases List.mem_append.mp hw with q | q
  · exact h.2 w q
  · rw [List.mem_singleton.mp q]
    exact ⟨by omega, fun _ => hs z h.1⟩
section
variable {P : Program} {w : World} {K : PySem.W.Frag} {mg : Str → Option Value} {base : Heap}

def spFar (K : PySem.W.Frag) : Sp := fun vs H Q _ => ∃ (a b : Addr) (ks h : List Str) (i : Nat), vs = [.ref a, .int (i : Int), .ref b] ∧ SqL K H a (ks.map V.str) ∧ SqL K H b (h.map V.str) ∧ i < ks.length ∧ ks.length ≤ 1000 ∧ h.length < 64 ∧ h ≠ [] ∧
  ∀ H' z, Same H H' → z ∈ h → (∀ w ∈ h, nxp ks i w ≤ nxp ks i z ∧ (nxp ks i w = nxp ks i z → ¬ ltS w z)) → Q (.str z) H'
theorem ok_far {f fN : Addr} {fd fdN : FuncData} (F : Fun K "farthest" "farthest" sFar f fd) (FN : Fun K "next_use" "next_use" sNext fN fdN) (bN : Binds K fdN ["keys", "after", "key"] []) (gN : mg "next_use" = some (.ref fN))
    (mr : mg "range" = none) (ml : mg "len" = none) (ms : mg "sorted" = none) : FnOk P w K mg base CX0 2 f fd ["keys", "at", "held"] (spFar K) := by
  have GN : FnOk P w K mg base CX0 1 fN fdN ["keys", "after", "key"] (spNext K) := ok_next FN mr ml
  refine F.ok scFar (fun vs H Q E h => ?_) (fun cdv A outer s H vs Q E hr h => ?_)
  · obtain ⟨a, b, ks, h, i, rfl, _⟩ := h
    rfl
  · obtain ⟨a, b, ks, h, i, rfl, hS, hB, hi, hlen, h64, hne, q⟩ := h
    refine ⟨_, pss_cons (ps_set (i := 3) scFar.nd rfl (.inl rfl) pe_non)
      (pss_cons (ps_for PassesOwn.never rfl (pi_list (pe_callB cr_sortedS (by rfl) ms (by decide +kernel) (pa_cons (pv 2) pa_nil))) (pg_name (i := 4) scFar.nd rfl (.inl rfl))
        (pss_one (ps_if (PW.pt (pw_or (pt_cmpR op_isN (pv 3) pe_non (nomark _)) (pw_or1 (pt_cmpR op_gt
            (pe_call GN hr (by rfl) gN FN.kp bN .nil pass0 (pa_cons (pv 0) (pa_cons (pv 1) (pa_cons (pv 4) pa_nil))))
            (pe_call GN hr (by rfl) gN FN.kp bN .nil pass0 (pa_cons (pv 0) (pa_cons (pv 1) (pa_cons (pv 3) pa_nil)))) (nomark _)))))
          (pss_one (ps_set (i := 3) scFar.nd rfl (.inl rfl) (pv 4))) pss_nil)))
      (pss_one (ps_ret (pv 3)))), ?_⟩
    -- for key in sorted(held)
    refine ⟨.ref b, rfl, b, h, rfl, hB, h64, fun ys p hperm hsort np => ⟨p, rfl, ⟨_, SqL.of upd_same⟩, ?_⟩⟩
    have hpw := sorted_pw hsort
    have hsm : Same H (upd H p (.lst (ys.map V.str))) := same_upd np
    refine for_list (xs := ys.map V.str) (fun j σ H' => ∃ o y4, σ = [some (.ref a), some (.int (i : Int)), some (.ref b), some (rv o), y4] ∧ H' = upd H p (.lst (ys.map V.str)) ∧ Bst (nxp ks i) (ys.take j) o)
      ⟨none, none, rfl, rfl, by rw [List.take_zero]; rfl⟩ (fun j σ H' _ hP => ?_) (fun j x σ H' hx hP => ?_) fun σ H' hP => ?_
    · obtain ⟨_, _, _, rfl, _⟩ := hP
      exact SqL.of upd_same
    · obtain ⟨o, y4, rfl, rfl, hb⟩ := hP
      rw [List.getElem?_map] at hx
      obtain ⟨y, hy, rfl⟩ := Option.map_eq_some_iff.mp hx
      have et : ys.take (j + 1) = ys.take j ++ [y] := by rw [List.take_add_one, hy]; rfl
      have hys : ∀ x ∈ ys.take j, ¬ ltS y x := fun x hx => by
        obtain ⟨hj, ej⟩ := List.getElem?_eq_some_iff.mp hy
        obtain ⟨m, hm, em⟩ := List.getElem_of_mem hx
        rw [List.length_take] at hm
        rw [List.getElem_take] at em
        have := (List.pairwise_iff_getElem.mp hpw) m j (by omega) hj (by omega)
        rw [em, ej] at this
        exact this
      refine ⟨rv o, rfl, rfl, _, rfl, ?_⟩
      cases o with
      | none =>
        rw [dec_rv_none]
        refine iteT (iteT ⟨.str y, rfl, some y, some (.str y), rfl, rfl, ?_⟩)
        rw [et]
        exact hb.none
      | some z =>
        rw [dec_rv_some]
        refine iteF ⟨.ref a, rfl, .int (i : Int), rfl, .str y, rfl, a, ks, i, y, rfl, hsm.seq hS, hi, hlen, .ref a, rfl, .int (i : Int), rfl, .str z, rfl, a, ks, i, z, rfl, hsm.seq hS, hi, hlen, _, _, rfl, rfl, _, rfl, ite2 (fun e => ?_) (fun e => ?_)⟩
        · have e' := of_decide_eq_true e
          refine ⟨.str y, rfl, some y, some (.str y), rfl, rfl, ?_⟩
          rw [et]
          exact hb.more (by omega)
        · have e' : ¬ nxp ks i z < nxp ks i y := fun c => e (decide_eq_true (by omega))
          refine ⟨some z, some (.str y), rfl, rfl, ?_⟩
          rw [et]
          exact hb.keep e' hys
    · obtain ⟨o, y4, rfl, rfl, hb⟩ := hP
      rw [List.length_map, List.take_length] at hb
      cases o with
      | none =>
        have e : ys = [] := hb
        rw [e] at hperm
        exact absurd (List.Perm.eq_nil hperm.symm) hne
      | some z => exact ⟨.str z, rfl, q _ z hsm (hperm.mem_iff.mp hb.1) fun w hw => hb.2 w (hperm.mem_iff.mpr hw)⟩

def spRemBy (K : PySem.W.Frag) (fF : Addr) : Sp := fun vs H Q _ => ∃ (a : Addr) (ks : List Str) (p : Nat), vs = [.ref a, .int (p : Int), .ref fF] ∧ SqL K H a (ks.map V.str) ∧ ks.length ≤ 60 ∧ 1 ≤ p ∧ p ≤ 8 ∧
  ∀ H' b rs, Same H H' → H b = none → H' b = some (.lst (rs.map rv)) → Serve (Far ltS) p [] ks rs → Q (.ref b) H'
theorem far_of {ks h : List Str} {i : Nat} {z : Str} (hf : ∀ w ∈ h, nxp ks i w ≤ nxp ks i z ∧ (nxp ks i w = nxp ks i z → ¬ ltS w z)) : Far ltS h (ks.drop (i + 1)) z := fun w hw => by
  obtain ⟨h1, h2⟩ := hf w hw
  unfold nxp at h1 h2
  exact ⟨by omega, fun e => h2 (by omega)⟩
theorem ok_remby {f fF fN fH : Addr} {fd fdF fdN fdH : FuncData} (F : Fun K "removals_by" "removals_by" sRemBy f fd) (FF : Fun K "farthest" "farthest" sFar fF fdF) (FN : Fun K "next_use" "next_use" sNext fN fdN) (FH : Fun K "held_after" "held_after" sHeld fH fdH)
    (bF : Binds K fdF ["keys", "at", "held"] []) (bN : Binds K fdN ["keys", "after", "key"] []) (bH : Binds K fdH ["held", "places", "key", "removed"] []) (gN : mg "next_use" = some (.ref fN)) (gH : mg "held_after" = some (.ref fH))
    (mr : mg "range" = none) (ml : mg "len" = none) (ms : mg "sorted" = none) : FnOk P w K mg base CX0 3 f fd ["keys", "places", "choose"] (spRemBy K fF) := by
  have GF : FnOk P w K mg base CX0 2 fF fdF ["keys", "at", "held"] (spFar K) := ok_far FF FN bN gN mr ml ms
  have GH : FnOk P w K mg base CX0 1 fH fdH ["held", "places", "key", "removed"] (spHeld K) := ok_held FH ml
  refine F.ok scRemBy (fun vs H Q E h => ?_) (fun cdv A outer s H vs Q E hr h => ?_)
  · obtain ⟨a, ks, p, rfl, _⟩ := h
    rfl
  · obtain ⟨a, ks, p, rfl, hS, hlen, hp1, hp8, q⟩ := h
    refine ⟨_, pss_cons (ps_set (i := 3) scRemBy.nd rfl (.inl rfl) (pe_lst pa_nil))
      (pss_cons (ps_set (i := 4) scRemBy.nd rfl (.inl rfl) (pe_lst pa_nil))
      (pss_cons (ps_for PassesOwn.never rfl (pi_range1 (by rfl) mr (pa_cons (pe_callB call_len_seq (by rfl) ml PySem.boot_len (pa_cons (pv 0) pa_nil)) pa_nil)) (pg_name (i := 5) scRemBy.nd rfl (.inl rfl))
        (pss_cons (ps_set (i := 6) scRemBy.nd rfl (.inl rfl) pe_non)
        (C8.pss_cut (ps_if (PW.pt (pw_and (pt_cmpR op_notIn_seq (pe_ix ix_list (pv 0) (pv 5) (fun _ _ => rfl)) (pv 3) (by rfl)) (pw_and1 (pt_cmpR op_eq (pe_callB call_len_seq (by rfl) ml PySem.boot_len (pa_cons (pv 3) pa_nil)) (pv 1) (nomark _)))))
            (pss_one (ps_set (i := 6) scRemBy.nd rfl (.inl rfl) (pe_callL (i := 2) (f := fF) GF hr rfl (.inl rfl) FF.kp bF .nil pass0 (pa_cons (pv 0) (pa_cons (pv 5) (pa_cons (pv 3) pa_nil)))))) pss_nil)
        (pss_cons (ps_set (i := 3) scRemBy.nd rfl (.inl rfl) (pe_call GH (hr.mono (by decide)) (by rfl) gH FH.kp bH .nil pass0 (pa_cons (pv 3) (pa_cons (pv 1) (pa_cons (pe_ix ix_list (pv 0) (pv 5) (fun _ _ => rfl)) (pa_cons (pv 6) pa_nil))))))
        (pss_one (ps_expr (pe_bm PySem.F.plainAttrs_list PySem.F.slot_list_append PySem.F.type_list_append mt_append (pv 4) (pa_cons (pv 6) pa_nil))))))))
      (pss_one (ps_ret (pv 4))))), ?_⟩
    refine ⟨Nat.zero_le _, fun hb0 nhb => ⟨Nat.zero_le _, fun rb nrb => ?_⟩⟩
    have s1 : Same H (upd H hb0 (.lst [])) := same_upd nhb
    have s2 := s1.trans (same_upd (o := .lst []) nrb)
    have nr0 : H rb = none := s1.free nrb
    refine ⟨.ref a, rfl, a, ks.map V.str, rfl, .inl (s2.seq hS), _, rfl, by omega, by rw [List.length_map]; omega, ?_⟩
    rw [List.length_map, Int.toNat_natCast]
    refine for_range (fun j σ H' => ∃ hb h rs y5 y6, σ = [some (.ref a), some (.int (p : Int)), some (.ref fF), some (.ref hb), some (.ref rb), y5, y6] ∧ Same H H' ∧ H' hb = some (.lst (h.map V.str)) ∧ H' rb = some (.lst (rs.map rv)) ∧ hb ≠ rb ∧ rs.length = j ∧ Good p h ∧
        ∀ rest, Serve (Far ltS) p h (ks.drop j) rest → Serve (Far ltS) p [] ks (rs ++ rest))
      ⟨hb0, [], [], none, none, rfl, s2, ?_, upd_same, ?_, rfl, good_nil p, fun rest hs => hs⟩ (fun j σ H' hj hP => ?_) fun σ H' hP => ?_
    · rw [upd_ne (ne_of_none upd_same nrb), upd_same]
      rfl
    · exact ne_of_none upd_same nrb
    · obtain ⟨hb, h, rs, y5, y6, rfl, sm, hH, hR, hne, hrl, g, hs⟩ := hP
      have e1 : ((0 : Int) + (j : Int)) = (j : Int) := by omega
      rw [e1]
      have gk := List.getElem?_eq_getElem hj
      generalize ks[j] = k at gk
      have ed : ks.drop j = k :: ks.drop (j + 1) := by
        rw [List.drop_eq_getElem_cons hj]
        congr 1
        exact Option.some.inj ((List.getElem?_eq_getElem hj).symm.trans gk)
      have hSa : ∀ {H2 : Hp}, Same H' H2 → SqL K H2 a (ks.map V.str) := fun s3 => (sm.trans s3).seq hS
      have hle : h.length ≤ 100 := Nat.le_trans g.le (by omega)
      refine ⟨fun σ2 H2 => ∃ r, σ2 = [some (.ref a), some (.int (p : Int)), some (.ref fF), some (.ref hb), some (.ref rb), some (.int (j : Int)), some (rv r)] ∧ Same H' H2 ∧ Okr (Far ltS) p h k (ks.drop (j + 1)) r, ?_, fun σ2 H2 hM => ?_⟩
      · -- the choice
        refine ⟨.ref a, rfl, .int (j : Int), rfl, a, ks.map V.str, _, .str k, rfl, rfl, hSa (Same.refl _), atI_nat (get_str gk), .ref hb, rfl, hb, h.map V.str, rfl, .inl (SqL.of hH), rfl, flat_strs h, _, rfl, ?_⟩
        show if (!inV (.str k) (h.map V.str)) = true then _ else _
        rw [inV_str]
        by_cases hk : k ∈ h
        · refine iteNS hk (iteF ⟨none, rfl, Same.refl _, .inl ⟨hk, rfl⟩⟩)
        · rw [decide_eq_false hk]
          refine iteT ⟨.ref hb, rfl, hb, h.map V.str, rfl, .inl (SqL.of hH), .int (p : Int), rfl, rfl, _, rfl, ite2 (fun e => ?_) (fun e => ?_)⟩
          · have hl : h.length = p := by
              have := V.int.inj (of_decide_eq_true e)
              rw [List.length_map] at this
              omega
            refine ⟨rfl, .ref a, rfl, .int (j : Int), rfl, .ref hb, rfl, a, hb, ks, h, j, rfl, hSa (Same.refl _), SqL.of hH, hj, by omega, by omega, ?_, fun H2 z s3 hz hf => ?_⟩
            · intro c
              rw [c] at hl
              have : 0 = p := hl
              omega
            · exact ⟨some z, rfl, s3, .inr (.inr ⟨hk, hl, z, rfl, hz, far_of hf⟩)⟩
          · refine ⟨none, rfl, Same.refl _, .inr (.inl ⟨hk, ?_, rfl⟩)⟩
            have := g.le
            have hl : ¬ h.length = p := fun c => e (decide_eq_true (by rw [List.length_map, c]))
            omega
      · obtain ⟨r, rfl, s3, ok⟩ := hM
        have okn : Okn p h k r := by
          rcases ok with o | o | ⟨a1, a2, z, e, hz, _⟩
          · exact .inl o
          · exact .inr (.inl o)
          · exact .inr (.inr ⟨a1, by omega, z, e, hz⟩)
        refine ⟨.ref hb, rfl, .int (p : Int), rfl, .ref a, rfl, .int (j : Int), rfl, a, ks.map V.str, _, .str k, rfl, rfl, hSa s3, atI_nat (get_str gk), rv r, rfl, hb, h, p, k, r, rfl, s3 _ _ hH, g.nd, hle, okn, fun H3 b s4 hb3 hbb => ?_⟩
        have hR3 : H3 rb = some (.lst (rs.map rv)) := s4 _ _ (s3 _ _ hR)
        have hbr : b ≠ rb := by
          rcases hbb with e | e
          · rw [e]
            exact hne
          · exact fun c => by
              rw [c, s3 _ _ hR] at e
              cases e
        refine ⟨.ref rb, rfl, .inl ⟨rfl, _, SqL.of hR3⟩, rv r, rfl, rb, _, _, rfl, rfl, hR3, small1000 (by rw [List.length_map]; omega), ?_⟩
        refine ⟨b, nxt h k r, rs ++ [r], some (.int (j : Int)), some (rv r), rfl, fun c o e => ?_, ?_, ?_, hbr, by rw [List.length_append, hrl]; rfl, good_nxt g ok, fun rest hs' => ?_⟩
        · rw [upd_ne (ne_of_none e nr0)]
          exact s4 _ _ (s3 _ _ (sm _ _ e))
        · rw [upd_ne hbr]
          exact hb3
        · rw [upd_same, List.map_append]
          rfl
        · have := hs (r :: rest) (by rw [ed]; exact ⟨ok, hs'⟩)
          rw [List.append_assoc]
          exact this
    · obtain ⟨hb, h, rs, y5, y6, rfl, sm, hH, hR, hne, hrl, g, hs⟩ := hP
      refine ⟨.ref rb, rfl, q H' rb rs sm nr0 hR ?_⟩
      have := hs [] (by rw [List.drop_length]; rfl)
      rw [List.append_nil] at this
      exact this

def spFarRem (K : PySem.W.Frag) : Sp := fun vs H Q _ => ∃ (a : Addr) (ks : List Str) (p : Nat), vs = [.ref a, .int (p : Int)] ∧ SqL K H a (ks.map V.str) ∧ ks.length ≤ 60 ∧ 1 ≤ p ∧ p ≤ 8 ∧
  ∀ H' b rs, Same H H' → H b = none → H' b = some (.lst (rs.map rv)) → Serve (Far ltS) p [] ks rs → Q (.ref b) H'
theorem ok_farrem {f fR fF : Addr} {fd fdR : FuncData} (F : Fun K "farthest_removals" "farthest_removals" sFarRem f fd) (GR : FnOk P w K mg base CX0 3 fR fdR ["keys", "places", "choose"] (spRemBy K fF))
    (kR : PySem.W.keepIn K (.ref fR) = true) (bR : Binds K fdR ["keys", "places", "choose"] []) (gR : mg "removals_by" = some (.ref fR)) (gF : mg "farthest" = some (.ref fF)) : FnOk P w K mg base CX0 4 f fd ["keys", "places"] (spFarRem K) := by
  refine F.ok scFarRem (fun vs H Q E h => ?_) (fun cdv A outer s H vs Q E hr h => ?_)
  · obtain ⟨a, ks, p, rfl, _⟩ := h
    rfl
  · obtain ⟨a, ks, p, rfl, hS, hlen, hp1, hp8, q⟩ := h
    refine ⟨_, pss_one (ps_ret (pe_call GR hr (by rfl) gR kR bR .nil pass0 (pa_cons (pv 0) (pa_cons (pv 1) (pa_cons (pe_glob (v := .ref fF) (by rfl) gF rfl) pa_nil))))), ?_⟩
    exact ⟨.ref a, rfl, .int (p : Int), rfl, a, ks, p, rfl, hS, hlen, hp1, hp8, q⟩
end
end K44

namespace K44
open PySem PySem.Spec PyProof.Rows L2
section
variable {P : Program} {w : World} {K : PySem.W.Frag} {mg : Str → Option Value} {base : Heap}

theorem pos1 : (0 : Int) < 2147483647 := by decide
theorem pos2 : (0 : Int) < 2147483629 := by decide
def spInt (K : PySem.W.Frag) : Sp := fun vs H Q _ => ∃ c : Int, vs = [.int c] ∧ ∀ n : Int, Q (.int n) H
theorem ok_mix {f : Addr} {fd : FuncData} {k : Nat} (F : Fun K "_law_mix" "_law_mix" sMix f fd) (mi : mg "int" = none) : FnOk P w K mg base CX0 (k + 1) f fd ["_law_cell"] (spInt K) := by
  refine F.ok scMix (fun vs H Q E h => ?_) (fun cdv A outer s H vs Q E hr h => ?_)
  · obtain ⟨c, rfl, _⟩ := h
    rfl
  · obtain ⟨c, rfl, q⟩ := h
    refine ⟨_, pss_cons (ps_set (i := 1) scMix.nd rfl (.inl rfl) (pe_op op_mod (pe_callTy call_int1 (by rfl) mi (by decide +kernel) (pa_cons (pv 0) pa_nil)) pe_int))
      (pss_cons (ps_set (i := 1) scMix.nd rfl (.inl rfl) (pe_op op_mod (pe_callTy call_int1 (by rfl) mi (by decide +kernel) (pa_cons (pe_op op_add (pe_op op_mul (pv 1) pe_int) pe_int) pa_nil)) pe_int))
      (pss_one (ps_ret (pe_op op_mod (pe_callTy call_int1 (by rfl) mi (by decide +kernel) (pa_cons (pe_op op_add (pe_op op_mul (pv 1) pe_int) pe_int) pa_nil)) pe_int)))), ?_⟩
    refine ⟨.int c, rfl, .inl ⟨c, rfl, c, 2147483647, rfl, rfl, pos1, ?_⟩⟩
    refine ⟨_, rfl, _, _, rfl, rfl, .inr ⟨by decide, by decide⟩, _, _, rfl, rfl, .inl ⟨_, rfl, _, _, rfl, rfl, pos1, ?_⟩⟩
    refine ⟨_, rfl, _, _, rfl, rfl, .inr ⟨by decide, by decide⟩, _, _, rfl, rfl, .inl ⟨_, rfl, _, _, rfl, rfl, pos2, ?_⟩⟩
    exact q _
theorem ok_num {f fM : Addr} {fd fdM : FuncData} (F : Fun K "_law_number" "_law_number" sNum f fd) (FM : Fun K "_law_mix" "_law_mix" sMix fM fdM) (bM : Binds K fdM ["_law_cell"] []) (gM : mg "_law_mix" = some (.ref fM)) (mi : mg "int" = none) :
    FnOk P w K mg base CX0 2 f fd ["_law_cell"] (spInt K) := by
  have GM : FnOk P w K mg base CX0 1 fM fdM ["_law_cell"] (spInt K) := ok_mix FM mi
  refine F.ok scNum (fun vs H Q E h => ?_) (fun cdv A outer s H vs Q E hr h => ?_)
  · obtain ⟨c, rfl, _⟩ := h
    rfl
  · obtain ⟨c, rfl, q⟩ := h
    refine ⟨_, pss_cons (ps_if (pt_cmpR op_ge (pv 0) (pe_op op_pow pe_int pe_int) (nomark _)) (pss_one (ps_ret (pv 0))) pss_nil)
      (pss_cons (ps_set (i := 1) scNum.nd rfl (.inl rfl) (pe_call GM hr (by rfl) gM FM.kp bM .nil pass0 (pa_cons (pv 0) pa_nil)))
      (pss_one (ps_ret (pe_op op_add (pe_op op_mul (pv 1) pe_int) (pe_call GM hr (by rfl) gM FM.kp bM .nil pass0 (pa_cons (pe_op op_add (pv 1) (pv 0)) pa_nil)))))), ?_⟩
    refine ⟨.int c, rfl, 10, 18, rfl, rfl, ⟨by decide, by decide, by decide⟩, _, _, rfl, rfl, _, rfl, ite2 (fun e => ⟨_, rfl, q c⟩) (fun e => ?_)⟩
    refine ⟨.int c, rfl, c, rfl, fun n => ⟨.int n, rfl, n, 2147483629, rfl, rfl, .inr ⟨by decide, by decide⟩, .int n, rfl, .int c, rfl, n, c, rfl, rfl, n + c, rfl, fun m => ⟨_, _, rfl, rfl, q _⟩⟩⟩

/-- the state of the draws stands well; sl: its own copy of the script -/
def StOk (H : Hp) (st sl : Addr) : Prop := ∃ (s0 s2 s3 : Int) (ns : List Int), H st = some (.lst [.int s0, .ref sl, .int s2, .int s3]) ∧ H sl = some (.lst (ns.map V.int)) ∧ sl ≠ st ∧ 0 ≤ s2 ∧ ns.length ≤ 63
theorem StOk.put {H : Hp} {st sl : Addr} {ns : List Int} (hl : H sl = some (.lst (ns.map V.int))) (hne : sl ≠ st) (h63 : ns.length ≤ 63) (s0 s2 s3 : Int) (h2 : 0 ≤ s2) : StOk (upd H st (.lst [.int s0, .ref sl, .int s2, .int s3])) st sl :=
  ⟨s0, s2, s3, ns, upd_same, by rw [upd_ne hne]; exact hl, hne, h2, h63⟩
theorem StOk.keep {H H' : Hp} {st sl : Addr} (h : StOk H st sl) (k : Same H H') : StOk H' st sl := by
  obtain ⟨s0, s2, s3, ns, a, b, c, d, e⟩ := h
  exact ⟨s0, s2, s3, ns, k _ _ a, k _ _ b, c, d, e⟩
theorem StOk.upd {H : Hp} {st sl D : Addr} {o : HO} (h : StOk H st sl) (n1 : D ≠ st) (n2 : D ≠ sl) : StOk (upd H D o) st sl := by
  obtain ⟨s0, s2, s3, ns, a, b, c, d, e⟩ := h
  exact ⟨s0, s2, s3, ns, by rw [upd_ne (Ne.symm n1)]; exact a, by rw [upd_ne (Ne.symm n2)]; exact b, c, d, e⟩
theorem StOk.new {H : Hp} {st sl D : Addr} (h : StOk H st sl) (n : H D = none) : D ≠ st ∧ D ≠ sl := by
  obtain ⟨s0, s2, s3, ns, a, b, c, d, e⟩ := h
  exact ⟨Ne.symm (ne_of_none a n), Ne.symm (ne_of_none b n)⟩
theorem But.free {a : Addr} {H H' : Hp} (h : But a H H') {b : Addr} (n : b ≠ a) (e : H' b = none) : H b = none := by
  cases q : H b with
  | none => rfl
  | some o =>
    rw [h b o n q] at e
    cases e
def spState (K : PySem.W.Frag) : Sp := fun vs H Q _ => ∃ (a : Addr) (ns : List Int), vs = [.ref a] ∧ SqL K H a (ns.map V.int) ∧ ns.length ≤ 63 ∧ ∀ H' st sl, Same H H' → H st = none → StOk H' st sl → Q (.ref st) H'
theorem ok_state {f : Addr} {fd : FuncData} {k : Nat} (F : Fun K "_law_state" "_law_state" sState f fd) (ml : mg "len" = none) (mls : mg "list" = none) : FnOk P w K mg base CX0 (k + 1) f fd ["_law_script"] (spState K) := by
  refine F.ok scState (fun vs H Q E h => ?_) (fun cdv A outer s H vs Q E hr h => ?_)
  · obtain ⟨a, ns, rfl, _⟩ := h
    rfl
  · obtain ⟨a, ns, rfl, hS, h63, q⟩ := h
    refine ⟨_, pss_one (ps_ret (pe_lst (pa_cons pe_int (pa_cons (pe_callTy call_list_of (by rfl) mls (by decide +kernel) (pa_cons (pv 0) pa_nil)) (pa_cons pe_int (pa_cons (pe_op op_add pe_int (pe_callB call_len_seq (by rfl) ml PySem.boot_len (pa_cons (pv 0) pa_nil))) pa_nil)))))), ?_⟩
    refine ⟨.ref a, rfl, a, ns.map V.int, rfl, .inl hS, fun sl nsl => ?_⟩
    have s1 : Same H (upd H sl (.lst (ns.map V.int))) := same_upd nsl
    refine ⟨.ref a, rfl, a, ns.map V.int, rfl, .inl (s1.seq hS), 1, _, rfl, rfl, sz1000 (show 4 ≤ 1000 by decide), fun st nst => ?_⟩
    have hne : sl ≠ st := ne_of_none upd_same nst
    exact q _ st sl (s1.trans (same_upd nst)) (s1.free nst) (StOk.put upd_same hne h63 _ _ _ (Int.le_refl _))

def spDraw (K : PySem.W.Frag) : Sp := fun vs H Q _ => ∃ (st sl : Addr) (m : Int), vs = [.ref st, .int m] ∧ StOk H st sl ∧ 0 < m ∧ m < 1000 ∧ ∀ H' n, But st H H' → StOk H' st sl → 0 ≤ n → n < m → Q (.int n) H'
theorem ok_draw {f fN fM : Addr} {fd fdN fdM : FuncData} (F : Fun K "_law_draw" "_law_draw" sDraw f fd) (FN : Fun K "_law_number" "_law_number" sNum fN fdN) (FM : Fun K "_law_mix" "_law_mix" sMix fM fdM) (bN : Binds K fdN ["_law_cell"] []) (bM : Binds K fdM ["_law_cell"] [])
    (gN : mg "_law_number" = some (.ref fN)) (gM : mg "_law_mix" = some (.ref fM)) (mi : mg "int" = none) (ml : mg "len" = none) : FnOk P w K mg base CX0 3 f fd ["_law_state_here", "_law_many"] (spDraw K) := by
  have GN : FnOk P w K mg base CX0 2 fN fdN ["_law_cell"] (spInt K) := ok_num FN FM bM gM mi
  refine F.ok scDraw (fun vs H Q E h => ?_) (fun cdv A outer s H vs Q E hr h => ?_)
  · obtain ⟨st, sl, m, rfl, _⟩ := h
    rfl
  · obtain ⟨st, sl, m, rfl, hst, hm0, hm1, q⟩ := h
    refine ⟨_, C8.pss_cut (ps_if (PW.pt (pw_and (pt_cmpR op_lt (pe_ix ix_list (pv 0) pe_int (fun _ _ => rfl)) (pv 1) (nomark _))
          (pw_and1 (pt_cmpR op_lt (pe_ix ix_list (pv 0) pe_int (fun _ _ => rfl)) (pe_callB call_len_seq (by rfl) ml PySem.boot_len (pa_cons (pe_ix ix_list (pv 0) pe_int (fun _ _ => rfl)) pa_nil)) (nomark _)))))
        (pss_cons (ps_asg (pe_call GN hr (by rfl) gN FN.kp bN .nil pass0 (pa_cons (pe_ix ix_list (pe_ix ix_list (pv 0) pe_int (fun _ _ => rfl)) (pe_ix ix_list (pv 0) pe_int (fun _ _ => rfl)) (fun _ _ => rfl)) pa_nil)) (pg_sub (pv 0) pe_int set_list))
        (pss_one (ps_asg (pe_op op_add (pe_ix ix_list (pv 0) pe_int (fun _ _ => rfl)) pe_int) (pg_sub (pv 0) pe_int set_list)))) pss_nil)
      (pss_cons (ps_if (pt_cmpR op_eq (pe_ix ix_list (pv 0) pe_int (fun _ _ => rfl)) pe_int (nomark _))
        (pss_cons (ps_asg (pe_op op_mod (pe_callTy call_int1 (by rfl) mi (by decide +kernel) (pa_cons (pe_op op_add (pe_op op_mul (pe_ix ix_list (pv 0) pe_int (fun _ _ => rfl)) pe_int) pe_int) pa_nil)) pe_int) (pg_sub (pv 0) pe_int set_list))
        (pss_one (ps_ret (pe_op op_mod (pe_callTy call_int1 (by rfl) mi (by decide +kernel) (pa_cons (pe_op op_fdivN (pe_ix ix_list (pv 0) pe_int (fun _ _ => rfl)) pe_int) pa_nil)) (pv 1))))) pss_nil)
      (pss_cons (ps_set (i := 2) scDraw.nd rfl (.inl rfl) (pe_op op_mod (pe_callTy call_int1 (by rfl) mi (by decide +kernel) (pa_cons (pe_ix ix_list (pv 0) pe_int (fun _ _ => rfl)) pa_nil)) (pv 1)))
      (pss_cons (ps_asg (pe_op op_fdivN (pe_ix ix_list (pv 0) pe_int (fun _ _ => rfl)) (pv 1)) (pg_sub (pv 0) pe_int set_list))
      (pss_one (ps_ret (pv 2)))))), ?_⟩
    refine ⟨fun σ2 H2 => ∃ y2, σ2 = [some (.ref st), some (.int m), y2] ∧ But st H H2 ∧ StOk H2 st sl, ?_, fun σ2 H2 hM => ?_⟩
    · obtain ⟨s0, s2, s3, ns, h1, h2, hne, h0, h63⟩ := hst
      refine ⟨.ref st, rfl, st, _, 0, .int s0, rfl, rfl, SqL.of h1, rfl, .int m, rfl, _, _, rfl, rfl, _, rfl, ?_⟩
      refine ite2 (fun e => ?_) (fun e => iteF ⟨none, rfl, But.refl _ _, s0, s2, s3, ns, h1, h2, hne, h0, h63⟩)
      refine ⟨.ref st, rfl, st, _, 2, .int s2, rfl, rfl, SqL.of h1, rfl, .ref st, rfl, st, _, 1, .ref sl, rfl, rfl, SqL.of h1, rfl, sl, _, rfl, .inl (SqL.of h2), _, _, rfl, rfl, _, rfl, ?_⟩
      refine ite2 (fun e2 => ?_) (fun e2 => ⟨none, rfl, But.refl _ _, s0, s2, s3, ns, h1, h2, hne, h0, h63⟩)
      have hlt : s2.toNat < ns.length := by
        have := of_decide_eq_true e2
        rw [List.length_map] at this
        omega
      have hat : atI (ns.map V.int) s2 = some (.int ns[s2.toNat]) := by
        have := atI_nat (xs := ns.map V.int) (j := s2.toNat) (v := .int ns[s2.toNat]) (by rw [List.getElem?_map, List.getElem?_eq_getElem hlt]; rfl)
        rw [Int.toNat_of_nonneg h0] at this
        exact this
      refine ⟨.ref st, rfl, st, _, 1, .ref sl, rfl, rfl, SqL.of h1, rfl, .ref st, rfl, st, _, 2, .int s2, rfl, rfl, SqL.of h1, rfl, sl, _, s2, _, rfl, rfl, SqL.of h2, hat, _, rfl, fun n => ?_⟩
      refine ⟨.ref st, rfl, st, _, 0, 0, rfl, rfl, h1, rfl, ?_⟩
      refine ⟨.ref st, rfl, st, _, 2, .int s2, rfl, rfl, SqL.of upd_same, rfl, s2, 1, rfl, rfl, .ref st, rfl, st, _, 2, 2, rfl, rfl, upd_same, rfl, none, rfl, ?_, ?_⟩
      · exact but_upd.trans but_upd
      · rw [upd_upd]
        exact StOk.put h2 hne h63 n (s2 + 1) s3 (by omega)
    · obtain ⟨y2, rfl, bt, s0, s2, s3, ns, h1, h2, hne, h0, h63⟩ := hM
      refine ⟨.ref st, rfl, st, _, 0, .int s0, rfl, rfl, SqL.of h1, rfl, rfl, _, rfl, ite2 (fun e => ?_) (fun e => ?_)⟩
      · refine ⟨.ref st, rfl, st, _, 3, .int s3, rfl, rfl, SqL.of h1, rfl, _, _, rfl, rfl, .inr ⟨by decide, by decide⟩, _, _, rfl, rfl, .inl ⟨_, rfl, _, _, rfl, rfl, pos1, .ref st, rfl, st, _, 3, 3, rfl, rfl, h1, rfl, ?_⟩⟩
        refine ⟨.ref st, rfl, st, _, 3, _, rfl, rfl, SqL.of upd_same, rfl, _, _, rfl, rfl, ⟨by decide, by decide⟩, .inl ⟨_, rfl, .int m, rfl, _, _, rfl, rfl, hm0, ?_⟩⟩
        exact q _ _ (bt.trans but_upd) (StOk.put h2 hne h63 _ _ _ h0) (Int.emod_nonneg _ (by omega)) (Int.emod_lt_of_pos _ hm0)
      · refine ⟨.ref st, rfl, st, _, 0, .int s0, rfl, rfl, SqL.of h1, rfl, .inl ⟨s0, rfl, .int m, rfl, s0, m, rfl, rfl, hm0, ?_⟩⟩
        refine ⟨.ref st, rfl, st, _, 0, .int s0, rfl, rfl, SqL.of h1, rfl, .int m, rfl, s0, m, rfl, rfl, ⟨by omega, by omega⟩, .ref st, rfl, st, _, 0, 0, rfl, rfl, h1, rfl, ?_⟩
        exact ⟨_, rfl, q _ _ (bt.trans but_upd) (StOk.put h2 hne h63 _ _ _ h0) (Int.emod_nonneg _ (by omega)) (Int.emod_lt_of_pos _ hm0)⟩
end
end K44

namespace K44
open PySem PySem.Spec PyProof.Rows L2
theorem at_of_len {l : List Nat} {n : Int} {m : Nat} (hl : l.length = m) (h0 : 0 ≤ n) (h1 : n < m) : ∃ c, atI l n = some c := by
  have hj : n.toNat < l.length := by omega
  refine ⟨l[n.toNat], ?_⟩
  have := atI_nat (List.getElem?_eq_getElem hj)
  rw [Int.toNat_of_nonneg h0] at this
  exact this
theorem len_abc : (Str.ofString "abcdef").cps.toList.length = 6 := by decide +kernel
theorem len_xyz : (Str.ofString "xyz").cps.toList.length = 3 := by decide +kernel
theorem sz_abc : (Str.ofString "abcdef").length ≤ sizeLine := sz1000 (by decide +kernel)
theorem sz_xyz : (Str.ofString "xyz").length ≤ sizeLine := sz1000 (by decide +kernel)
theorem erase_at : ∀ {l : List Str} {j : Nat} {z : Str}, l.Nodup → l[j]? = some z → l.eraseIdx j = l.erase z
  | [], j, z, _, h => by simp at h
  | a :: r, 0, z, _, h => by
    have e : a = z := Option.some.inj h
    subst e
    rw [List.erase_cons_head]
    rfl
  | a :: r, j + 1, z, hn, h => by
    have h : r[j]? = some z := h
    have hz : z ∈ r := List.mem_of_getElem? h
    obtain ⟨n1, n2⟩ := List.nodup_cons.mp hn
    have e : ¬ a = z := fun q => n1 (q ▸ hz)
    rw [List.erase_cons_tail (by rw [beq_iff_eq]; exact e), ← erase_at n2 h]
    rfl
section
variable {P : Program} {w : World} {K : PySem.W.Frag} {mg : Str → Option Value} {base : Heap}

def spKeys (K : PySem.W.Frag) : Sp := fun vs H Q _ => ∃ (st sl : Addr) (m : Nat), vs = [.ref st, .int (m : Int)] ∧ StOk H st sl ∧ m ≤ 60 ∧ ∀ (H' : Hp) (b : Addr) (ks : List Str), But st H H' → StOk H' st sl → H b = none → H' b = some (.lst (ks.map V.str)) → ks.length = m → Q (.ref b) H'
theorem ok_keys {f fD : Addr} {fd fdD : FuncData} (F : Fun K "_law_keys" "_law_keys" sKeys f fd) (GD : FnOk P w K mg base CX0 3 fD fdD ["_law_state_here", "_law_many"] (spDraw K)) (kD : PySem.W.keepIn K (.ref fD) = true)
    (bD : Binds K fdD ["_law_state_here", "_law_many"] []) (gD : mg "_law_draw" = some (.ref fD)) (mr : mg "range" = none) : FnOk P w K mg base CX0 4 f fd ["_law_state_here", "_law_many"] (spKeys K) := by
  refine F.ok scKeys (fun vs H Q E h => ?_) (fun cdv A outer s H vs Q E hr h => ?_)
  · obtain ⟨st, sl, m, rfl, _⟩ := h
    rfl
  · obtain ⟨st, sl, m, rfl, hst, hm, q⟩ := h
    refine ⟨_, pss_cons (ps_set (i := 2) scKeys.nd rfl (.inr rfl) (pe_op op_add pe_int (pe_call GD hr (by rfl) gD kD bD .nil pass0 (pa_cons (pv 0) (pa_cons pe_int pa_nil)))))
      (pss_one (ps_ret (pe_lc (own := [("_law_k", 3)]) (g := gName 3) (tt := tYes) rfl scKeys.nd (pi_range1 (by rfl) mr (pa_cons (pv 1) pa_nil)) (blkOk_by (N := ["_law_state_here", "_law_many", "_law_kinds", "_law_k"]) (sc := defScope sKeys) (by decide +kernel))
        (fun _ _ _ _ _ => pg_name (i := 3) scKeys.nd rfl (.inl rfl)) (fun _ _ _ _ _ => pts_nil)
        (fun _ _ _ _ _ => pe_op op_add_str
          (pe_ix ix_str pe_str (pe_call GD hr (by rfl) gD kD bD .nil pass0 (pa_cons (pv 0) (pa_cons (pv 2) pa_nil))) (fun _ _ => rfl))
          (pe_ix ix_str pe_str (pe_call GD hr (by rfl) gD kD bD .nil pass0 (pa_cons (pv 0) (pa_cons (pe_op op_add pe_int (pe_call GD hr (by rfl) gD kD bD .nil pass0 (pa_cons (pv 0) (pa_cons pe_int pa_nil)))) pa_nil))) (fun _ _ => rfl)))))), ?_⟩
    refine ⟨.ref st, rfl, st, sl, 6, rfl, hst, by decide, by decide, fun H1 kd b1 st1 k0 k1 => ⟨1, kd, rfl, rfl, ?_⟩⟩
    refine ⟨.int (m : Int), rfl, (m : Int), rfl, by omega, by omega, fun D nD => ?_⟩
    rw [Int.toNat_natCast]
    obtain ⟨nst, nsl⟩ := st1.new nD
    have nD0 : H D = none := b1.free nst nD
    refine lc_range (fun i H' => But st H1 H' ∧ StOk H' st sl ∧ ∃ ks : List Str, ks.length = i ∧ H' D = some (.lst (ks.map V.str))) ⟨Same.but (same_upd nD), st1.keep (same_upd nD), [], rfl, upd_same⟩ (fun i H' hi hP => ?_) fun H' hP => ?_
    · obtain ⟨b2, st2, ks, hl, hD⟩ := hP
      refine ⟨rfl, iteT (B := But st H1 H' ∧ StOk H' st sl ∧ ∃ ks : List Str, ks.length = i + 1 ∧ H' D = some (.lst (ks.map V.str))) ?_⟩
      refine ⟨.ref st, rfl, .int (1 + kd), rfl, st, sl, 1 + kd, rfl, st2, by omega, by omega, fun H3 n b3 st3 n0 n1 => ?_⟩
      obtain ⟨c, hc⟩ := at_of_len (n := n) len_abc n0 (by omega)
      refine ⟨_, n, c, rfl, rfl, sz_abc, hc, ?_⟩
      refine ⟨.ref st, rfl, .ref st, rfl, st, sl, 2, rfl, st3, by decide, by decide, fun H4 n2 b4 st4 m0 m1 => ⟨1, n2, rfl, rfl, st, sl, 1 + n2, rfl, st4, by omega, by omega, fun H5 n3 b5 st5 p0 p1 => ?_⟩⟩
      obtain ⟨d, hd⟩ := at_of_len (n := n3) len_xyz p0 (by omega)
      refine ⟨_, n3, d, rfl, rfl, sz_xyz, hd, _, _, rfl, rfl, sz1000 (show 1 + 1 ≤ 1000 by decide), ?_⟩
      have hD5 : H5 D = some (.lst (ks.map V.str)) := b5 _ _ nst (b4 _ _ nst (b3 _ _ nst hD))
      refine ⟨_, hD5, small1000 (by rw [List.length_map]; omega), ?_, st5.upd nst nsl, ks ++ [⟨#[c]⟩ ++ ⟨#[d]⟩], by rw [List.length_append, hl]; rfl, by rw [upd_same, List.map_append]; rfl⟩
      exact fun b o nb e => by
        rw [upd_ne (ne_of_none e nD)]
        exact b5 _ _ nb (b4 _ _ nb (b3 _ _ nb (b2 _ _ nb e)))
    · obtain ⟨b2, st2, ks, hl, hD⟩ := hP
      exact q H' D ks (b1.trans b2) st2 nD0 hD hl

def spDrawn (K : PySem.W.Frag) : Sp := fun vs H Q _ => ∃ (st sl a : Addr) (ks : List Str) (p : Nat), vs = [.ref st, .ref a, .int (p : Int)] ∧ StOk H st sl ∧ H a = some (.lst (ks.map V.str)) ∧ a ≠ st ∧ ks.length ≤ 60 ∧ 1 ≤ p ∧ p ≤ 8 ∧
  ∀ (H' : Hp) (b : Addr) (rs : List (Option Str)), But st H H' → StOk H' st sl → H b = none → H' b = some (.lst (rs.map rv)) → Serve Any p [] ks rs → Q (.ref b) H'
theorem ok_drawn {f fD : Addr} {fd fdD : FuncData} (F : Fun K "_law_drawn_removals" "_law_drawn_removals" sDrawn f fd) (GD : FnOk P w K mg base CX0 3 fD fdD ["_law_state_here", "_law_many"] (spDraw K)) (kD : PySem.W.keepIn K (.ref fD) = true)
    (bD : Binds K fdD ["_law_state_here", "_law_many"] []) (gD : mg "_law_draw" = some (.ref fD)) (ml : mg "len" = none) : FnOk P w K mg base CX0 4 f fd ["_law_state_here", "_law_keys_here", "_law_places"] (spDrawn K) := by
  refine F.ok scDrawn (fun vs H Q E h => ?_) (fun cdv A outer s H vs Q E hr h => ?_)
  · obtain ⟨st, sl, a, ks, p, rfl, _⟩ := h
    rfl
  · obtain ⟨st, sl, a, ks, p, rfl, hst, ha, has, hlen, hp1, hp8, q⟩ := h
    refine ⟨_, pss_cons (ps_set (i := 3) scDrawn.nd rfl (.inl rfl) (pe_lst pa_nil))
      (pss_cons (ps_set (i := 4) scDrawn.nd rfl (.inl rfl) (pe_lst pa_nil))
      (pss_cons (ps_for PassesOwn.never rfl (pi_list (pv 1)) (pg_name (i := 5) scDrawn.nd rfl (.inl rfl))
        (pss_cons (ps_set (i := 6) scDrawn.nd rfl (.inl rfl) pe_non)
        (C8.pss_cut (ps_if (pt_cmpR op_notIn_seq (pv 5) (pv 3) (by rfl))
            (C8.pss_cut (ps_if (pt_cmpR op_eq (pe_callB call_len_seq (by rfl) ml PySem.boot_len (pa_cons (pv 3) pa_nil)) (pv 2) (nomark _))
                (pss_one (ps_set (i := 6) scDrawn.nd rfl (.inl rfl) (pe_bm PySem.F.plainAttrs_list PySem.F.slot_list_pop PySem.F.type_list_pop mt_popAt (pv 3)
                  (pa_cons (pe_call GD hr (by rfl) gD kD bD .nil pass0 (pa_cons (pv 0) (pa_cons (pe_callB call_len_seq (by rfl) ml PySem.boot_len (pa_cons (pv 3) pa_nil)) pa_nil))) pa_nil)))) pss_nil)
              (pss_one (ps_expr (pe_bm PySem.F.plainAttrs_list PySem.F.slot_list_append PySem.F.type_list_append mt_append (pv 3) (pa_cons (pv 5) pa_nil))))) pss_nil)
        (pss_one (ps_expr (pe_bm PySem.F.plainAttrs_list PySem.F.slot_list_append PySem.F.type_list_append mt_append (pv 4) (pa_cons (pv 6) pa_nil)))))))
      (pss_one (ps_ret (pv 4))))), ?_⟩
    refine ⟨Nat.zero_le _, fun hb nhb => ⟨Nat.zero_le _, fun rb nrb => ?_⟩⟩
    have s1 : Same H (upd H hb (.lst [])) := same_upd nhb
    have s2 := s1.trans (same_upd (o := .lst []) nrb)
    have nr0 : H rb = none := s1.free nrb
    have hrne : hb ≠ rb := ne_of_none upd_same nrb
    obtain ⟨hbst, hbsl⟩ := hst.new nhb
    obtain ⟨rbst, rbsl⟩ := hst.new nr0
    have hba : a ≠ hb := ne_of_none ha nhb
    have rba : a ≠ rb := ne_of_none ha nr0
    refine ⟨.ref a, rfl, a, rfl, ⟨_, SqL.of (s2 _ _ ha)⟩, ?_⟩
    refine for_list (xs := ks.map V.str) (fun j σ H' => ∃ h rs y5 y6, σ = [some (.ref st), some (.ref a), some (.int (p : Int)), some (.ref hb), some (.ref rb), y5, y6] ∧ But st H H' ∧ StOk H' st sl ∧ H' a = some (.lst (ks.map V.str)) ∧ H' hb = some (.lst (h.map V.str)) ∧ H' rb = some (.lst (rs.map rv)) ∧ rs.length = j ∧ Good p h ∧
        ∀ rest, Serve Any p h (ks.drop j) rest → Serve Any p [] ks (rs ++ rest))
      ⟨[], [], none, none, rfl, Same.but s2, hst.keep s2, s2 _ _ ha, ?_, upd_same, rfl, good_nil p, fun rest hs => hs⟩ (fun j σ H' _ hP => ?_) (fun j x σ H' hx hP => ?_) fun σ H' hP => ?_
    · rw [upd_ne hrne, upd_same]
      rfl
    · obtain ⟨_, _, _, _, _, _, _, e, _⟩ := hP
      exact SqL.of e
    · obtain ⟨h, rs, y5, y6, rfl, bt, so, hA, hH, hR, hrl, g, hs⟩ := hP
      rw [List.getElem?_map] at hx
      obtain ⟨k, gk, rfl⟩ := Option.map_eq_some_iff.mp hx
      have hj : j < ks.length := (List.getElem?_eq_some_iff.mp gk).1
      have ed : ks.drop j = k :: ks.drop (j + 1) := by
        rw [List.drop_eq_getElem_cons hj]
        congr 1
        exact (List.getElem?_eq_some_iff.mp gk).2
      have hle : h.length ≤ 8 := Nat.le_trans g.le hp8
      refine ⟨fun σ2 H2 => ∃ r, σ2 = [some (.ref st), some (.ref a), some (.int (p : Int)), some (.ref hb), some (.ref rb), some (.str k), some (rv r)] ∧ But st H H2 ∧ StOk H2 st sl ∧ H2 a = some (.lst (ks.map V.str)) ∧ H2 hb = some (.lst ((nxt h k r).map V.str)) ∧ H2 rb = some (.lst (rs.map rv)) ∧ Okr Any p h k (ks.drop (j + 1)) r, ?_, fun σ2 H2 hM => ?_⟩
      · refine ⟨.str k, rfl, .ref hb, rfl, hb, h.map V.str, rfl, .inl (SqL.of hH), rfl, flat_strs h, _, rfl, ?_⟩
        show if (!inV (.str k) (h.map V.str)) = true then _ else _
        rw [inV_str]
        by_cases hk : k ∈ h
        · refine iteNS hk ⟨none, rfl, bt, so, hA, ?_, hR, .inl ⟨hk, rfl⟩⟩
          unfold nxt
          rw [if_pos hk]
          exact hH
        · rw [decide_eq_false hk]
          refine iteT ⟨fun σ3 H3 => ∃ r h3, σ3 = [some (.ref st), some (.ref a), some (.int (p : Int)), some (.ref hb), some (.ref rb), some (.str k), some (rv r)] ∧ But st H H3 ∧ StOk H3 st sl ∧ H3 a = some (.lst (ks.map V.str)) ∧ H3 hb = some (.lst (h3.map V.str)) ∧ nxt h k r = h3 ++ [k] ∧ h3.length ≤ 8 ∧ H3 rb = some (.lst (rs.map rv)) ∧ Okr Any p h k (ks.drop (j + 1)) r, ?_, fun σ3 H3 hM => ?_⟩
          · refine ⟨.ref hb, rfl, hb, h.map V.str, rfl, .inl (SqL.of hH), .int (p : Int), rfl, rfl, _, rfl, ite2 (fun e => ?_) (fun e => ?_)⟩
            · have hl : h.length = p := by
                have := V.int.inj (of_decide_eq_true e)
                rw [List.length_map] at this
                omega
              refine ⟨.ref hb, rfl, .inl ⟨rfl, _, SqL.of hH⟩, .ref st, rfl, .ref hb, rfl, hb, h.map V.str, rfl, .inl (SqL.of hH), st, sl, _, rfl, so, by rw [List.length_map]; omega, by rw [List.length_map]; omega, fun H3 n b3 st3 n0 n1 => ?_⟩
              rw [List.length_map] at n1
              have hn : n.toNat < h.length := by omega
              have gz := List.getElem?_eq_getElem hn
              generalize h[n.toNat] = z at gz
              have hz : z ∈ h := List.mem_of_getElem? gz
              have hat : atI (h.map V.str) n = some (.str z) := by
                have := atI_nat (get_str gz)
                rw [Int.toNat_of_nonneg n0] at this
                exact this
              obtain ⟨j2, e1, e2, _⟩ := atI_get hat
              have ej : j2 = n.toNat := by
                have e3 := (ixN_seq (n := (h.map V.str).length) (i := n) (j := n.toNat) (by
                  unfold ixN
                  rw [if_pos n0, if_pos (by rw [List.length_map]; omega)])).1
                rw [e1] at e3
                exact Option.some.inj e3
              refine ⟨hb, h.map V.str, n, j2, .str z, rfl, rfl, b3 _ _ hbst hH, by omega, by omega, e1, e2, ?_⟩
              refine ⟨some z, h.erase z, rfl, ?_, st3.upd hbst hbsl, ?_, ?_, ?_, Nat.le_trans List.length_erase_le hle, ?_, .inr (.inr ⟨hk, hl, z, rfl, hz, True.intro⟩)⟩
              · exact fun b o nb e => by
                  rw [upd_ne (ne_of_none e nhb)]
                  exact b3 _ _ nb (bt _ _ nb e)
              · rw [upd_ne hba]
                exact b3 _ _ has hA
              · rw [upd_same, ej, map_eraseIdxS, erase_at g.nd gz]
              · unfold nxt
                rw [if_neg hk]
              · rw [upd_ne (Ne.symm hrne)]
                exact b3 _ _ rbst hR
            · have := g.le
              have hl : ¬ h.length = p := fun c => e (decide_eq_true (by rw [List.length_map, c]))
              refine ⟨none, h, rfl, bt, so, hA, hH, ?_, hle, hR, .inr (.inl ⟨hk, by omega, rfl⟩)⟩
              unfold nxt
              rw [if_neg hk]
          · obtain ⟨r, h3, rfl, bt3, so3, hA3, hH3, en, hl3, hR3, ok3⟩ := hM
            refine ⟨.ref hb, rfl, .inl ⟨rfl, _, SqL.of hH3⟩, .str k, rfl, hb, _, _, rfl, rfl, hH3, small1000 (by rw [List.length_map]; omega), ?_⟩
            refine ⟨r, rfl, ?_, so3.upd hbst hbsl, by rw [upd_ne hba]; exact hA3, ?_, by rw [upd_ne (Ne.symm hrne)]; exact hR3, ok3⟩
            · exact fun b o nb e => by
                rw [upd_ne (ne_of_none e nhb)]
                exact bt3 _ _ nb e
            · rw [upd_same, en, List.map_append]
              rfl
      · obtain ⟨r, rfl, bt2, so2, hA2, hH2, hR2, ok2⟩ := hM
        refine ⟨.ref rb, rfl, .inl ⟨rfl, _, SqL.of hR2⟩, rv r, rfl, rb, _, _, rfl, rfl, hR2, small1000 (by rw [List.length_map]; omega), ?_⟩
        refine ⟨nxt h k r, rs ++ [r], some (.str k), some (rv r), rfl, ?_, so2.upd rbst rbsl, by rw [upd_ne rba]; exact hA2, by rw [upd_ne hrne]; exact hH2, ?_, by rw [List.length_append, hrl]; rfl, good_nxt g ok2, fun rest hs' => ?_⟩
        · exact fun b o nb e => by
            rw [upd_ne (ne_of_none e nr0)]
            exact bt2 _ _ nb e
        · rw [upd_same, List.map_append]
          rfl
        · have := hs (r :: rest) (by rw [ed]; exact ⟨ok2, hs'⟩)
          rw [List.append_assoc]
          exact this
    · obtain ⟨h, rs, y5, y6, rfl, bt, so, hA, hH, hR, hrl, g, hs⟩ := hP
      refine ⟨.ref rb, rfl, q H' rb rs bt so nr0 hR ?_⟩
      have := hs [] (by rw [List.length_map, List.drop_length]; rfl)
      rw [List.append_nil] at this
      exact this
end
end K44

namespace K44
open PySem PySem.Spec PyProof.Rows L2
theorem get_rv {rs : List (Option Str)} {i : Nat} {r : Option Str} (h : rs[i]? = some r) : (rs.map rv)[i]? = some (rv r) := by
  rw [List.getElem?_map, h]
  rfl
theorem drop_cons {α : Type} {l : List α} {j : Nat} {x : α} (h : l[j]? = some x) : l.drop j = x :: l.drop (j + 1) := by
  obtain ⟨hj, e⟩ := List.getElem?_eq_some_iff.mp h
  rw [List.drop_eq_getElem_cons hj, e]
section
variable {P : Program} {w : World} {K : PySem.W.Frag} {mg : Str → Option Value} {base : Heap}
theorem ok_lnext {f : Addr} {fd : FuncData} {k : Nat} (F : Fun K "_law_next" "_law_next" sLNext f fd) (mr : mg "range" = none) (ml : mg "len" = none) : FnOk P w K mg base CX0 (k + 1) f fd ["_law_keys_here", "_law_at", "_law_key"] (spNext K) := by
  refine F.ok scLNext (fun vs H Q E h => ?_) (fun cdv A outer s H vs Q E hr h => ?_)
  · obtain ⟨a, ks, i, k, rfl, _⟩ := h
    rfl
  · obtain ⟨a, ks, i, k, rfl, hS, hi, hlen, q⟩ := h
    refine ⟨_, pss_cons (ps_for PassesOwn.never rfl (pi_range2 (by rfl) mr (pa_cons (pe_op op_add (pv 1) pe_int) (pa_cons (pe_callB call_len_seq (by rfl) ml PySem.boot_len (pa_cons (pv 0) pa_nil)) pa_nil)))
        (pg_name (i := 3) scLNext.nd rfl (.inl rfl))
        (pss_one (ps_if (pt_cmpR op_eq (pe_ix ix_list (pv 0) (pv 3) (fun _ _ => rfl)) (pv 2) (nomark _)) (pss_one (ps_ret (pv 3))) pss_nil)))
      (pss_one (ps_ret (pe_callB call_len_seq (by rfl) ml PySem.boot_len (pa_cons (pv 0) pa_nil)))), ?_⟩
    have hl : (ks.map V.str).length = ks.length := List.length_map ..
    refine ⟨.int (i : Int), rfl, (i : Int), 1, rfl, rfl, .ref a, rfl, a, ks.map V.str, rfl, .inl hS, (i : Int) + 1, ((ks.map V.str).length : Int), rfl, ⟨by omega, by omega, by omega, by omega⟩, ?_⟩
    refine for_range (fun j σ H' => ∃ y3, σ = [some (.ref a), some (.int (i : Int)), some (.str k), y3] ∧ H' = H ∧ ∀ m, m < j → (ks.drop (i + 1))[m]? ≠ some k) ⟨none, rfl, rfl, fun m hm => absurd hm (Nat.not_lt_zero _)⟩ (fun j σ H' hj hP => ?_) fun σ H' hP => ?_
    · obtain ⟨y3, rfl, rfl, hn⟩ := hP
      have hj' : i + 1 + j < ks.length := by omega
      have g := List.getElem?_eq_getElem hj'
      have e1 : ((i : Int) + 1 + (j : Int)) = ((i + 1 + j : Nat) : Int) := by omega
      refine ⟨.ref a, rfl, _, rfl, a, _, _, _, rfl, rfl, hS, (by rw [e1]; exact atI_nat (get_str g)), .str k, rfl, rfl, _, rfl, ite2 (fun e => ?_) (fun e => ?_)⟩
      · have e2 : ks[i + 1 + j] = k := V.str.inj (of_decide_eq_true e)
        refine ⟨_, rfl, ?_⟩
        rw [e1]
        have e3 : ix (ks.drop (i + 1)) k = j := ix_spec k _ j (by rw [List.length_drop]; omega) (by rw [List.getElem?_drop, g, e2]) hn
        have q' := q
        unfold nxp at q'
        rw [e3] at q'
        exact q'
      · refine ⟨_, rfl, rfl, fun m hm => ?_⟩
        by_cases hmj : m = j
        · subst hmj
          rw [List.getElem?_drop, g]
          intro z
          exact e (decide_eq_true (by rw [Option.some.inj z]))
        · exact hn m (by omega)
    · obtain ⟨y3, rfl, rfl, hn⟩ := hP
      refine ⟨.ref a, rfl, a, ks.map V.str, rfl, .inl hS, ?_⟩
      have e3 : ix (ks.drop (i + 1)) k = ks.length - (i + 1) := by
        rw [ix_none k _ fun m hm => hn m (by rw [List.length_drop] at hm; omega), List.length_drop]
      unfold nxp at q
      rw [e3, show i + 1 + (ks.length - (i + 1)) = ks.length by omega] at q
      rw [hl]
      exact q

def spServed (K : PySem.W.Frag) : Sp := fun vs H Q _ => ∃ (a b : Addr) (ks : List Str) (rs : List (Option Str)) (p : Nat), vs = [.ref a, .int (p : Int), .ref b] ∧ SqL K H a (ks.map V.str) ∧ H b = some (.lst (rs.map rv)) ∧ ks.length ≤ 60 ∧ p ≤ 8 ∧ Serve Any p [] ks rs ∧
  ∀ H', Same H H' → Q (.int (cost [] ks rs)) H'
theorem ok_served {f : Addr} {fd : FuncData} {k : Nat} (F : Fun K "_law_served" "_law_served" sServed f fd) (mis : mg "isinstance" = none) (mls : mg "list" = none) (ml : mg "len" = none) (mr : mg "range" = none) :
    FnOk P w K mg base CX0 (k + 1) f fd ["_law_keys_here", "_law_places", "_law_removals"] (spServed K) := by
  refine F.ok scServed (fun vs H Q E h => ?_) (fun cdv A outer s H vs Q E hr h => ?_)
  · obtain ⟨a, b, ks, rs, p, rfl, _⟩ := h
    rfl
  · obtain ⟨a, b, ks, rs, p, rfl, hS, hB, hlen, hp8, hsv, q⟩ := h
    refine ⟨_, pss_cons (ps_set (i := 3) scServed.nd rfl (.inl rfl) (pe_lst pa_nil))
      (pss_cons (ps_set (i := 4) scServed.nd rfl (.inl rfl) pe_int)
      (pss_cons (ps_if (PW.pt (pw_or (pt_not (pt_val (pe_callB call_isi (by rfl) mis (by decide +kernel) (pa_cons (pv 2) (pa_cons (pe_bltn (v := .ty "list") (u := .type "list") (by rfl) mls (by decide +kernel) rfl) pa_nil)))))
          (pw_or1 (pt_cmpR op_ne (pe_callB call_len_seq (by rfl) ml PySem.boot_len (pa_cons (pv 2) pa_nil)) (pe_callB call_len_seq (by rfl) ml PySem.boot_len (pa_cons (pv 0) pa_nil)) (nomark _)))))
        (pss_one (ps_ret pe_non)) pss_nil)
      (pss_cons (ps_for PassesOwn.never rfl (pi_range1 (by rfl) mr (pa_cons (pe_callB call_len_seq (by rfl) ml PySem.boot_len (pa_cons (pv 0) pa_nil)) pa_nil)) (pg_name (i := 5) scServed.nd rfl (.inl rfl))
        (pss_one (ps_if (pt_cmpR op_in_seq (pe_ix ix_list (pv 0) (pv 5) (fun _ _ => rfl)) (pv 3) (by rfl))
          (pss_one (ps_if (pt_cmpR op_notN (pe_ix ix_list (pv 2) (pv 5) (fun _ _ => rfl)) pe_non (nomark _)) (pss_one (ps_ret pe_non)) pss_nil))
          (pss_cons (ps_set (i := 4) scServed.nd rfl (.inl rfl) (pe_op op_add (pv 4) pe_int))
          (C8.pss_cut (ps_if (pt_cmpR op_eq (pe_callB call_len_seq (by rfl) ml PySem.boot_len (pa_cons (pv 3) pa_nil)) (pv 1) (nomark _))
              (pss_cons (ps_if (pt_cmpR op_notIn_seq (pe_ix ix_list (pv 2) (pv 5) (fun _ _ => rfl)) (pv 3) (by rfl)) (pss_one (ps_ret pe_non)) pss_nil)
              (pss_one (ps_expr (pe_bm PySem.F.plainAttrs_list PySem.F.slot_list_remove PySem.F.type_list_remove mt_removeS (pv 3) (pa_cons (pe_ix ix_list (pv 2) (pv 5) (fun _ _ => rfl)) pa_nil)))))
              (pss_one (ps_if (pt_cmpR op_notN (pe_ix ix_list (pv 2) (pv 5) (fun _ _ => rfl)) pe_non (nomark _)) (pss_one (ps_ret pe_non)) pss_nil)))
          (pss_one (ps_expr (pe_bm PySem.F.plainAttrs_list PySem.F.slot_list_append PySem.F.type_list_append mt_append (pv 3) (pa_cons (pe_ix ix_list (pv 0) (pv 5) (fun _ _ => rfl)) pa_nil)))))))))
      (pss_one (ps_ret (pv 4)))))), ?_⟩
    refine ⟨Nat.zero_le _, fun hb nhb => ?_⟩
    have s1 : Same H (upd H hb (.lst [])) := same_upd nhb
    have hrl : rs.length = ks.length := hsv.len
    refine ⟨.ref b, rfl, .ref b, .ty "list", _, _, true, rfl, .ty "list", .base (.lst (s1 _ _ hB)), kit_ty (by decide +kernel), true, rfl, ?_⟩
    refine iteF ⟨.ref b, rfl, b, rs.map rv, rfl, .inl (SqL.of (s1 _ _ hB)), .ref a, rfl, a, ks.map V.str, rfl, .inl (s1.seq hS), rfl, _, rfl, ?_⟩
    refine iteNS (by rw [List.length_map, List.length_map, hrl]) ?_
    refine ⟨.ref a, rfl, a, ks.map V.str, rfl, .inl (s1.seq hS), _, rfl, by omega, by rw [List.length_map]; omega, ?_⟩
    rw [List.length_map, Int.toNat_natCast]
    refine for_range (fun j σ H' => ∃ (h : List Str) (fe : Int) (y5 : Option V), σ = [some (.ref a), some (.int (p : Int)), some (.ref b), some (.ref hb), some (.int fe), y5] ∧ Same H H' ∧ H' hb = some (.lst (h.map V.str)) ∧ Good p h ∧ Serve Any p h (ks.drop j) (rs.drop j) ∧ fe + cost h (ks.drop j) (rs.drop j) = cost [] ks rs)
      ⟨[], 0, none, rfl, s1, upd_same, good_nil p, hsv, Int.zero_add _⟩ (fun j σ H' hj hP => ?_) fun σ H' hP => ?_
    · obtain ⟨h, fe, y5, rfl, sm, hH, g, sv, hc⟩ := hP
      have e1 : ((0 : Int) + (j : Int)) = (j : Int) := by omega
      rw [e1]
      have gk := List.getElem?_eq_getElem hj
      generalize ks[j] = k at gk
      have gr := List.getElem?_eq_getElem (l := rs) (i := j) (by omega)
      generalize rs[j]'(by omega) = r at gr
      rw [drop_cons gk, drop_cons gr] at sv hc
      obtain ⟨ok, sv'⟩ := sv
      have hc : fe + ((if k ∈ h then 0 else 1) + cost (nxt h k r) (ks.drop (j + 1)) (rs.drop (j + 1))) = cost [] ks rs := hc
      have hle : h.length ≤ 8 := Nat.le_trans g.le hp8
      have hSa : SqL K H' a (ks.map V.str) := sm.seq hS
      have hSb : SqL K H' b (rs.map rv) := SqL.of (sm _ _ hB)
      have hbb : b ≠ hb := ne_of_none hB nhb
      refine ⟨.ref a, rfl, .int (j : Int), rfl, a, _, _, .str k, rfl, rfl, hSa, atI_nat (get_str gk), .ref hb, rfl, hb, h.map V.str, rfl, .inl (SqL.of hH), rfl, flat_strs h, _, rfl, ?_⟩
      show if inV (.str k) (h.map V.str) = true then _ else _
      rw [inV_str]
      refine ite2 (fun e => ?_) (fun e => ?_)
      · have hk : k ∈ h := of_decide_eq_true e
        have hr0 : r = none := by
          rcases ok with ⟨_, e⟩ | ⟨n, _⟩ | ⟨n, _⟩
          · exact e
          · exact absurd hk n
          · exact absurd hk n
        subst hr0
        refine ⟨.ref b, rfl, .int (j : Int), rfl, b, _, _, rv none, rfl, rfl, hSb, atI_nat (get_rv gr), rfl, _, rfl, ?_⟩
        rw [dec_rv_none]
        refine iteF ⟨h, fe, some (.int (j : Int)), rfl, sm, hH, g, ?_, ?_⟩
        · unfold nxt at sv'
          rw [if_pos hk] at sv'
          exact sv'
        · unfold nxt at hc
          rw [if_pos hk, if_pos hk] at hc
          omega
      · have hk : k ∉ h := fun z => e (decide_eq_true z)
        rw [if_neg hk] at hc
        refine ⟨.int fe, rfl, fe, 1, rfl, rfl, ?_⟩
        refine ⟨fun σ2 H2 => ∃ h3 : List Str, σ2 = [some (.ref a), some (.int (p : Int)), some (.ref b), some (.ref hb), some (.int (fe + 1)), some (.int (j : Int))] ∧ Same H H2 ∧ H2 hb = some (.lst (h3.map V.str)) ∧ nxt h k r = h3 ++ [k] ∧ h3.length ≤ 8, ?_, fun σ2 H2 hM => ?_⟩
        · refine ⟨.ref hb, rfl, hb, h.map V.str, rfl, .inl (SqL.of hH), .int (p : Int), rfl, rfl, _, rfl, ite2 (fun e2 => ?_) (fun e2 => ?_)⟩
          · have hl : h.length = p := by
              have := V.int.inj (of_decide_eq_true e2)
              rw [List.length_map] at this
              omega
            obtain ⟨z, rfl, hz⟩ : ∃ z, r = some z ∧ z ∈ h := by
              rcases ok with ⟨n, _⟩ | ⟨_, n, _⟩ | ⟨_, _, z, e, hz, _⟩
              · exact absurd n hk
              · omega
              · exact ⟨z, e, hz⟩
            refine ⟨.ref b, rfl, .int (j : Int), rfl, b, _, _, rv (some z), rfl, rfl, hSb, atI_nat (get_rv gr), .ref hb, rfl, hb, h.map V.str, rfl, .inl (SqL.of hH), rfl, flat_strs h, _, rfl, ?_⟩
            show if (!inV (.str z) (h.map V.str)) = true then _ else _
            rw [inV_str]
            refine iteNS hz ?_
            refine ⟨.ref hb, rfl, .inl ⟨rfl, _, SqL.of hH⟩, .ref b, rfl, .int (j : Int), rfl, b, _, _, rv (some z), rfl, rfl, hSb, atI_nat (get_rv gr), hb, h, z, rfl, rfl, hH, hz, ?_⟩
            refine ⟨h.erase z, rfl, fun c o e => ?_, upd_same, ?_, Nat.le_trans List.length_erase_le hle⟩
            · rw [upd_ne (ne_of_none e nhb)]
              exact sm c o e
            · unfold nxt
              rw [if_neg hk]
          · have := g.le
            have hl : ¬ h.length = p := fun c => e2 (decide_eq_true (by rw [List.length_map, c]))
            have hr0 : r = none := by
              rcases ok with ⟨n, _⟩ | ⟨_, _, e⟩ | ⟨_, n, _⟩
              · exact absurd n hk
              · exact e
              · exact absurd n hl
            subst hr0
            refine ⟨.ref b, rfl, .int (j : Int), rfl, b, _, _, rv none, rfl, rfl, hSb, atI_nat (get_rv gr), rfl, _, rfl, ?_⟩
            rw [dec_rv_none]
            refine iteF ⟨h, rfl, sm, hH, ?_, hle⟩
            unfold nxt
            rw [if_neg hk]
        · obtain ⟨h3, rfl, sm2, hH2, en, hl3⟩ := hM
          refine ⟨.ref hb, rfl, .inl ⟨rfl, _, SqL.of hH2⟩, .ref a, rfl, .int (j : Int), rfl, a, _, _, .str k, rfl, rfl, sm2.seq hS, atI_nat (get_str gk), hb, _, _, rfl, rfl, hH2, small1000 (by rw [List.length_map]; omega), ?_⟩
          refine ⟨nxt h k r, fe + 1, some (.int (j : Int)), rfl, fun c o e => ?_, ?_, good_nxt g ok, sv', by omega⟩
          · rw [upd_ne (ne_of_none e nhb)]
            exact sm2 c o e
          · rw [upd_same, en, List.map_append]
            rfl
    · obtain ⟨h, fe, y5, rfl, sm, hH, g, sv, hc⟩ := hP
      rw [List.drop_length] at hc
      have hc : fe + 0 = cost [] ks rs := hc
      refine ⟨.int fe, rfl, ?_⟩
      rw [show fe = cost [] ks rs by omega]
      exact q H' sm
end
end K44

namespace K44
open PySem PySem.Spec PyProof.Rows L2
section
variable {P : Program} {w : World} {K : PySem.W.Frag} {mg : Str → Option Value} {base : Heap}

def spIsFar (K : PySem.W.Frag) : Sp := fun vs H Q _ => ∃ (a b : Addr) (ks : List Str) (rs : List (Option Str)) (p : Nat), vs = [.ref a, .int (p : Int), .ref b] ∧ SqL K H a (ks.map V.str) ∧ H b = some (.lst (rs.map rv)) ∧ ks.length ≤ 60 ∧ p ≤ 8 ∧ Serve (Far ltS) p [] ks rs ∧
  ∀ H', Same H H' → Q (.bl true) H'
theorem ok_isfar {f fN : Addr} {fd fdN : FuncData} (F : Fun K "_law_is_farthest" "_law_is_farthest" sIsFar f fd) (FN : Fun K "_law_next" "_law_next" sLNext fN fdN) (bN : Binds K fdN ["_law_keys_here", "_law_at", "_law_key"] []) (gN : mg "_law_next" = some (.ref fN))
    (mx : mg "max" = none) (mn : mg "min" = none) (ml : mg "len" = none) (mr : mg "range" = none) :
    FnOk P w K mg base CX0 2 f fd ["_law_keys_here", "_law_places", "_law_removals"] (spIsFar K) := by
  have GN : FnOk P w K mg base CX0 1 fN fdN ["_law_keys_here", "_law_at", "_law_key"] (spNext K) := ok_lnext FN mr ml
  refine F.ok scIsFar (fun vs H Q E h => ?_) (fun cdv A outer s H vs Q E hr h => ?_)
  · obtain ⟨a, b, ks, rs, p, rfl, _⟩ := h
    rfl
  · obtain ⟨a, b, ks, rs, p, rfl, hS, hB, hlen, hp8, hsv, q⟩ := h
    refine ⟨_, pss_cons (ps_set (i := 3) scIsFar.nd rfl (.inl rfl) (pe_lst pa_nil))
      (pss_cons (ps_for PassesOwn.never rfl (pi_range1 (by rfl) mr (pa_cons (pe_callB call_len_seq (by rfl) ml PySem.boot_len (pa_cons (pv 0) pa_nil)) pa_nil)) (pg_name (i := 4) scIsFar.nd rfl (.inr rfl))
        (C8.pss_cut (ps_if (pt_cmpR op_notN (pe_ix ix_list (pv 2) (pv 4) (fun _ _ => rfl)) pe_non (nomark _))
            (pss_cons (ps_set (i := 5) scIsFar.nd rfl (.inr rfl) (pe_callB (cr_max rfl) (by rfl) mx (by decide +kernel) (pa_cons
              (pe_lc (own := [("_law_key", 6)]) (g := gName 6) (tt := tYes) rfl scIsFar.nd (pi_list (pv 3)) (blkOk_by (N := ["_law_keys_here", "_law_places", "_law_removals", "_law_held", "_law_k", "_law_latest", "_law_key"]) (sc := defScope sIsFar) (by decide +kernel))
                (fun _ _ _ _ _ => pg_name (i := 6) scIsFar.nd rfl (.inl rfl)) (fun _ _ _ _ _ => pts_nil)
                (fun _ _ _ _ _ => pe_call GN hr (by rfl) gN FN.kp bN .nil pass0 (pa_cons (pv 0) (pa_cons (pv 4) (pa_cons (pv 6) pa_nil))))) pa_nil)))
            (pss_cons (ps_if (pt_cmpR op_ne (pe_ix ix_list (pv 2) (pv 4) (fun _ _ => rfl)) (pe_callB (cr_minS rfl) (by rfl) mn (by decide +kernel) (pa_cons
                (pe_lc (own := [("_law_key", 6)]) (g := gName 6) rfl scIsFar.nd (pi_list (pv 3)) (blkOk_by (N := ["_law_keys_here", "_law_places", "_law_removals", "_law_held", "_law_k", "_law_latest", "_law_key"]) (sc := defScope sIsFar) (by decide +kernel))
                  (fun _ _ _ _ _ => pg_name (i := 6) scIsFar.nd rfl (.inl rfl))
                  (fun _ _ _ _ _ => pts_one (pt_cmpR op_eq (pe_call GN hr (by rfl) gN FN.kp bN .nil pass0 (pa_cons (pv 0) (pa_cons (pv 4) (pa_cons (pv 6) pa_nil)))) (pv 5) (nomark _)))
                  (fun _ _ _ _ _ => pv 6)) pa_nil)) (nomark _))
              (pss_one (ps_ret pe_bl)) pss_nil)
            (pss_one (ps_expr (pe_bm PySem.F.plainAttrs_list PySem.F.slot_list_remove PySem.F.type_list_remove mt_removeS (pv 3) (pa_cons (pe_ix ix_list (pv 2) (pv 4) (fun _ _ => rfl)) pa_nil)))))) pss_nil)
        (pss_one (ps_if (pt_cmpR op_notIn_seq (pe_ix ix_list (pv 0) (pv 4) (fun _ _ => rfl)) (pv 3) (by rfl))
          (pss_one (ps_expr (pe_bm PySem.F.plainAttrs_list PySem.F.slot_list_append PySem.F.type_list_append mt_append (pv 3) (pa_cons (pe_ix ix_list (pv 0) (pv 4) (fun _ _ => rfl)) pa_nil)))) pss_nil))))
      (pss_one (ps_ret pe_bl))), ?_⟩
    refine ⟨Nat.zero_le _, fun hb nhb => ?_⟩
    have s1 : Same H (upd H hb (.lst [])) := same_upd nhb
    have hrl : rs.length = ks.length := hsv.len
    refine ⟨.ref a, rfl, a, ks.map V.str, rfl, .inl (s1.seq hS), _, rfl, by omega, by rw [List.length_map]; omega, ?_⟩
    rw [List.length_map, Int.toNat_natCast]
    refine for_range (fun j σ H' => ∃ (h : List Str) (y4 y5 : Option V), σ = [some (.ref a), some (.int (p : Int)), some (.ref b), some (.ref hb), y4, y5, none] ∧ Same H H' ∧ H' hb = some (.lst (h.map V.str)) ∧ Good p h ∧ Serve (Far ltS) p h (ks.drop j) (rs.drop j))
      ⟨[], none, none, rfl, s1, upd_same, good_nil p, hsv⟩ (fun j σ H' hj hP => ?_) fun σ H' hP => ?_
    · obtain ⟨h, y4, y5, rfl, sm, hH, g, sv⟩ := hP
      have e1 : ((0 : Int) + (j : Int)) = (j : Int) := by omega
      rw [e1]
      have gk := List.getElem?_eq_getElem hj
      generalize ks[j] = k at gk
      have gr := List.getElem?_eq_getElem (l := rs) (i := j) (by omega)
      generalize rs[j]'(by omega) = r at gr
      rw [drop_cons gk, drop_cons gr] at sv
      obtain ⟨ok, sv'⟩ := sv
      have hle : h.length ≤ 8 := Nat.le_trans g.le hp8
      refine ⟨fun σ2 H2 => ∃ (h3 : List Str) (y5 : Option V), σ2 = [some (.ref a), some (.int (p : Int)), some (.ref b), some (.ref hb), some (.int (j : Int)), y5, none] ∧ Same H H2 ∧ H2 hb = some (.lst (h3.map V.str)) ∧ h3.length ≤ 8 ∧ nxt h k r = (if k ∈ h3 then h3 else h3 ++ [k]), ?_, fun σ2 H2 hM => ?_⟩
      · refine ⟨.ref b, rfl, .int (j : Int), rfl, b, _, _, rv r, rfl, rfl, SqL.of (sm _ _ hB), atI_nat (get_rv gr), rfl, _, rfl, ?_⟩
        cases r with
        | none =>
          rw [dec_rv_none]
          refine iteF ⟨h, y5, rfl, sm, hH, hle, ?_⟩
          unfold nxt
          rfl
        | some z =>
          rw [dec_rv_some]
          obtain ⟨hk, hl, hz, hf⟩ : k ∉ h ∧ h.length = p ∧ z ∈ h ∧ Far ltS h (ks.drop (j + 1)) z := by
            rcases ok with ⟨_, e⟩ | ⟨_, _, e⟩ | ⟨n, l, z', e, hz, hf⟩
            · cases e
            · cases e
            · cases e
              exact ⟨n, l, hz, hf⟩
          have hf' : ∀ w ∈ h, nxp ks j w ≤ nxp ks j z ∧ (nxp ks j w = nxp ks j z → ¬ ltS w z) := fun w hw => by
            obtain ⟨q1, q2⟩ := hf w hw
            unfold nxp
            exact ⟨by omega, fun e => q2 (by omega)⟩
          -- latest = max([..])
          refine iteT ⟨.ref hb, rfl, hb, rfl, ⟨_, SqL.of hH⟩, fun D nD => ?_⟩
          have hDb : hb ≠ D := ne_of_none hH nD
          refine lc_list (xs := h.map V.str) (fun i H3 => Same H' H3 ∧ H3 D = some (.lst ((h.take i).map fun w => V.int (nxp ks j w : Nat)))) ⟨same_upd nD, upd_same⟩ (fun i H3 _ hP => hP.1.seq (SqL.of hH)) (fun i x H3 hx hP => ?_) fun H3 hP => ?_
          · obtain ⟨sm3, hD⟩ := hP
            rw [List.getElem?_map] at hx
            obtain ⟨y, hy, rfl⟩ := Option.map_eq_some_iff.mp hx
            have et : h.take (i + 1) = h.take i ++ [y] := by rw [List.take_add_one, hy]; rfl
            refine ⟨rfl, iteT (B := Same H' H3 ∧ H3 D = some (.lst ((h.take (i + 1)).map fun w => V.int (nxp ks j w : Nat)))) ?_⟩
            refine ⟨.ref a, rfl, .int (j : Int), rfl, .str y, rfl, a, ks, j, y, rfl, (sm.trans sm3).seq hS, hj, by omega, _, hD, small1000 (by rw [List.length_map, List.length_take]; omega), fun c o e => ?_, ?_⟩
            · rw [upd_ne (ne_of_none e nD)]
              exact sm3 c o e
            · rw [upd_same, et, List.map_append]
              rfl
          · obtain ⟨sm3, hD⟩ := hP
            rw [List.length_map, List.take_length] at hD
            have ens : (h.map fun w => V.int (nxp ks j w : Nat)) = (h.map fun w => ((nxp ks j w : Nat) : Int)).map V.int := by rw [List.map_map]; rfl
            rw [ens] at hD
            refine ⟨D, h.map fun w => ((nxp ks j w : Nat) : Int), rfl, SqL.of hD, by rw [List.length_map]; exact List.length_pos_of_mem hz, fun m hm hmax => ?_⟩
            have hmz : m = (nxp ks j z : Nat) := by
              obtain ⟨w0, hw0, rfl⟩ := List.mem_map.mp hm
              have q1 := (hf' w0 hw0).1
              have q2 := hmax _ (List.mem_map.mpr ⟨z, hz, rfl⟩)
              omega
            have hH3 : H3 hb = some (.lst (h.map V.str)) := sm3 _ _ hH
            have smA : Same H H3 := sm.trans sm3
            -- removals[k] != min([..])
            refine ⟨.ref b, rfl, .int (j : Int), rfl, b, _, _, rv (some z), rfl, rfl, SqL.of (smA _ _ hB), atI_nat (get_rv gr), .ref hb, rfl, hb, rfl, ⟨_, SqL.of hH3⟩, fun D2 nD2 => ?_⟩
            refine lc_list (xs := h.map V.str) (fun i H4 => Same H3 H4 ∧ H4 D2 = some (.lst (((h.take i).filter fun w => decide (nxp ks j w = nxp ks j z)).map V.str))) ⟨same_upd nD2, upd_same⟩ (fun i H4 _ hP => hP.1.seq (SqL.of hH3)) (fun i x H4 hx hP => ?_) fun H4 hP => ?_
            · obtain ⟨sm4, hD2⟩ := hP
              rw [List.getElem?_map] at hx
              obtain ⟨y, hy, rfl⟩ := Option.map_eq_some_iff.mp hx
              have et : h.take (i + 1) = h.take i ++ [y] := by rw [List.take_add_one, hy]; rfl
              refine ⟨rfl, .ref a, rfl, .int (j : Int), rfl, .str y, rfl, a, ks, j, y, rfl, (smA.trans sm4).seq hS, hj, by omega, .int m, rfl, rfl, _, rfl, ite2 (fun e => ?_) (fun e => ?_)⟩
              · have e3 : nxp ks j y = nxp ks j z := by
                  have := V.int.inj (of_decide_eq_true e)
                  omega
                refine ⟨.str y, rfl, _, hD2, ?_, fun c o e => ?_, ?_⟩
                · rw [List.length_map]
                  refine small1000 (Nat.le_trans (List.length_filter_le _ _) ?_)
                  rw [List.length_take]
                  omega
                · rw [upd_ne (ne_of_none e nD2)]
                  exact sm4 c o e
                · rw [upd_same, et, List.filter_append, List.map_append, show List.filter (fun w => decide (nxp ks j w = nxp ks j z)) [y] = [y] from List.filter_cons_of_pos (decide_eq_true e3)]
                  rfl
              · have e3 : ¬ nxp ks j y = nxp ks j z := fun c => e (decide_eq_true (by rw [hmz, c]))
                refine ⟨sm4, ?_⟩
                rw [hD2, et, List.filter_append, show List.filter (fun w => decide (nxp ks j w = nxp ks j z)) [y] = [] from List.filter_cons_of_neg (by rw [decide_eq_false e3]; decide), List.append_nil]
            · obtain ⟨sm4, hD2⟩ := hP
              rw [List.length_map, List.take_length] at hD2
              have hzf : z ∈ h.filter fun w => decide (nxp ks j w = nxp ks j z) := List.mem_filter.mpr ⟨hz, decide_eq_true rfl⟩
              refine ⟨D2, _, rfl, SqL.of hD2, List.length_pos_of_mem hzf, fun mm hmm hmin => ?_⟩
              obtain ⟨hm1, hm2⟩ := List.mem_filter.mp hmm
              have ezm : z = mm := ltS_tri (hmin z hzf) ((hf' mm hm1).2 (of_decide_eq_true hm2))
              subst ezm
              refine ⟨rfl, _, rfl, ?_⟩
              refine iteNS rfl ?_
              have hH4 : H4 hb = some (.lst (h.map V.str)) := sm4 _ _ hH3
              have smB : Same H H4 := smA.trans sm4
              refine ⟨.ref hb, rfl, .inl ⟨rfl, _, SqL.of hH4⟩, .ref b, rfl, .int (j : Int), rfl, b, _, _, rv (some z), rfl, rfl, SqL.of (smB _ _ hB), atI_nat (get_rv gr), hb, h, z, rfl, rfl, hH4, hz, ?_⟩
              refine ⟨h.erase z, some (.int m), rfl, fun c o e => ?_, upd_same, Nat.le_trans List.length_erase_le hle, ?_⟩
              · rw [upd_ne (ne_of_none e nhb)]
                exact smB c o e
              · unfold nxt
                rw [if_neg hk, if_neg (not_mem_erase hk)]
      · obtain ⟨h3, y5', rfl, sm2, hH2, hl3, en⟩ := hM
        refine ⟨.ref a, rfl, .int (j : Int), rfl, a, _, _, .str k, rfl, rfl, sm2.seq hS, atI_nat (get_str gk), .ref hb, rfl, hb, h3.map V.str, rfl, .inl (SqL.of hH2), rfl, flat_strs h3, _, rfl, ?_⟩
        show if (!inV (.str k) (h3.map V.str)) = true then _ else _
        rw [inV_str]
        by_cases hk3 : k ∈ h3
        · rw [if_pos hk3] at en
          refine iteNS hk3 ⟨nxt h k r, some (.int (j : Int)), y5', rfl, sm2, by rw [en]; exact hH2, good_nxt g ok, sv'⟩
        · rw [if_neg hk3] at en
          rw [decide_eq_false hk3]
          refine iteT ⟨.ref hb, rfl, .inl ⟨rfl, _, SqL.of hH2⟩, .ref a, rfl, .int (j : Int), rfl, a, _, _, .str k, rfl, rfl, sm2.seq hS, atI_nat (get_str gk), hb, _, _, rfl, rfl, hH2, small1000 (by rw [List.length_map]; omega), ?_⟩
          refine ⟨nxt h k r, some (.int (j : Int)), y5', rfl, fun c o e => ?_, ?_, good_nxt g ok, sv'⟩
          · rw [upd_ne (ne_of_none e nhb)]
            exact sm2 c o e
          · rw [upd_same, en, List.map_append]
            rfl
    · obtain ⟨h, y4, y5, rfl, sm, hH, g, sv⟩ := hP
      exact q H' sm
end
end K44

namespace K44
open PySem PySem.Spec PyProof.Rows L2
theorem PE.imp {X : Cx} {e : Expr} {t t' : TE} (h : PE X e t) (k : ∀ σ H Q, t' σ H Q → t σ H Q) : PE X e t' := ⟨fun pins s σ H Q I q => h.run pins s σ H Q I (k σ H Q q)⟩

/-! ### the tables, as the layer has them -/
def ky (l : List Str) : List Key := l.map Sum.inr
def emb (ms : List (List Str × Int)) : List (List Key × V) := ms.map fun x => (ky x.1, V.int x.2)
theorem ky_kV (l : List Str) : (ky l).map kV = l.map V.str := by
  unfold ky
  rw [List.map_map]
  rfl
theorem ky_inj {l m : List Str} (h : ky l = ky m) : l = m := by
  have e := congrArg (List.map kV) h
  rw [ky_kV, ky_kV] at e
  exact (List.map_inj_right (fun a b q => V.str.inj q)).mp e
theorem valV_emb (l : List Str) : ∀ ms : List (List Str × Int), valV (emb ms) (ky l) = (getM ms l).map V.int
  | [] => rfl
  | p :: r => by
    have ih := valV_emb l r
    by_cases e : p.1 = l
    · rw [getM_pos e]
      exact valV_pos (p := (ky p.1, V.int p.2)) (congrArg ky e)
    · rw [getM_neg e, ← ih]
      exact valV_neg (p := (ky p.1, V.int p.2)) (fun q => e (ky_inj q))
theorem any_emb (l : List Str) : ∀ ms : List (List Str × Int), ((emb ms).any fun kv => decide (kv.1 = ky l)) = ms.any fun x => decide (x.1 = l)
  | [] => rfl
  | p :: r => by
    show (decide (ky p.1 = ky l) || ((emb r).any fun kv => decide (kv.1 = ky l))) = _
    rw [any_emb l r, List.any_cons]
    congr 1
    by_cases e : p.1 = l
    · rw [decide_eq_true e, decide_eq_true (congrArg ky e)]
    · rw [decide_eq_false e, decide_eq_false (fun q => e (ky_inj q))]
theorem putK_emb (ms : List (List Str × Int)) (l : List Str) (c : Int) : putK (emb ms) (ky l) (V.int c) = emb (putM ms l c) := by
  unfold putK putM
  rw [any_emb]
  by_cases a : (ms.any fun x => decide (x.1 = l)) = true
  · rw [if_pos a, if_pos a]
    unfold emb
    rw [List.map_map, List.map_map]
    refine List.map_congr_left fun p _ => ?_
    show (if ky p.1 = ky l then (ky p.1, V.int c) else (ky p.1, V.int p.2)) = _
    by_cases e : p.1 = l
    · rw [if_pos (congrArg ky e)]
      show _ = (ky (if p.1 = l then (p.1, c) else p).1, V.int (if p.1 = l then (p.1, c) else p).2)
      rw [if_pos e]
    · rw [if_neg (fun q => e (ky_inj q))]
      show _ = (ky (if p.1 = l then (p.1, c) else p).1, V.int (if p.1 = l then (p.1, c) else p).2)
      rw [if_neg e]
  · rw [if_neg a, if_neg a]
    unfold emb
    rw [List.map_append]
    rfl
theorem emb_len (ms : List (List Str × Int)) : (emb ms).length = ms.length := List.length_map ..
theorem emb_get {ms : List (List Str × Int)} {i : Nat} {k : List Key} {v : V} (h : (emb ms)[i]? = some (k, v)) : ∃ l c, ms[i]? = some (l, c) ∧ k = ky l ∧ v = V.int c := by
  unfold emb at h
  rw [List.getElem?_map] at h
  obtain ⟨x, hx, e⟩ := Option.map_eq_some_iff.mp h
  exact ⟨x.1, x.2, hx, (Prod.mk.inj e).1.symm, (Prod.mk.inj e).2.symm⟩
theorem dget_at {H : Hp} {d q : Addr} {ms : List (List Str × Int)} {l : List Str} (hd : Rd H d (.dT (emb ms))) (hq : H q = some (.tup (l.map V.str))) : DGet H d (.ref q) ((getM ms l).map V.int) :=
  .inr ⟨emb ms, ky l, q, hd, rfl, by rw [ky_kV]; exact hq, (valV_emb l ms).symm⟩
theorem dput_at {H : Hp} {d q : Addr} {ms : List (List Str × Int)} {l : List Str} {c : Int} (hd : H d = some (.dT (emb ms))) (hq : H q = some (.tup (l.map V.str))) (hl : ms.length < sizeLine) : DPut H d (.ref q) (.int c) (upd H d (.dT (emb (putM ms l c)))) :=
  .inr ⟨emb ms, ky l, q, hd, rfl, by rw [ky_kV]; exact hq, by rw [emb_len]; exact hl, by rw [putK_emb]⟩

/-! ### tuple(sorted(t + (key,))) -/
def rTup (K : PySem.W.Frag) : List V → Hp → VK → Prop := fun xs H Q => ∃ p ys, xs = [.ref p] ∧ ((SqL K H p ys ∧ ∀ l, H l = none → Q (.ref l) (upd H l (.tup ys))) ∨ (SqT K H p ys ∧ Q (.ref p) H))
def tTsk (i : Nat) : TE := fun σ H Q => ∃ (q : Addr) (l : List Str) (k : Str), σ[i]? = some (some (.ref q)) ∧ σ[3]? = some (some (.str k)) ∧ H q = some (.tup (l.map V.str)) ∧ l.length ≤ 20 ∧
  ∀ (H' : Hp) (q' : Addr) (l' : List Str), Same H H' → H q' = none → l'.Perm (l ++ [k]) → H' q' = some (.tup (l'.map V.str)) → Q (.ref q') H'
theorem tsk_imp (K : PySem.W.Frag) (i : Nat) (σ : L2.St) (H : Hp) (Q : VK) (h : tTsk i σ H Q) :
    tCB (rTup K) (tCons (tCB (rSortedTS K) (tCons (tOp (rCatA K) (tVar i) (tTup (tCons (tVar 3) tNil))) tNil)) tNil) σ H Q := by
  obtain ⟨q, l, k, hi, h3, hq, hl, hQ⟩ := h
  refine ⟨.ref q, hi, .str k, h3, sz1000 (show 1 ≤ 1000 by decide), fun b nb => ?_⟩
  have s1 : Same H (upd H b (.tup [.str k])) := same_upd nb
  have fin : ∀ (H2 : Hp) (c : Addr), Same H H2 → H2 c = some (.tup ((l ++ [k]).map V.str)) → tCB (rTup K) (fun σ H Q => rSortedTS K [.ref c] H fun x H1 => Q [x] H1) σ H2 Q := fun H2 c s2 hc => by
    refine ⟨c, l ++ [k], rfl, SqT.of hc, by rw [List.length_append]; exact (show l.length + 1 < 64 by omega), fun ys p hp np => ⟨p, _, rfl, .inl ⟨SqL.of upd_same, fun q' nq => ?_⟩⟩⟩
    have s3 := s2.trans (same_upd (o := .lst (ys.map V.str)) np)
    exact hQ _ q' ys (s3.trans (same_upd nq)) (s3.free nq) hp upd_same
  refine ⟨q, b, l.map V.str, [.str k], rfl, rfl, SqT.of (s1 _ _ hq), SqT.of upd_same, sz1000 (by rw [List.length_map]; exact (show l.length + 1 ≤ 1000 by omega)), fun e => ?_, fun _ e => ?_, fun _ _ c nc => ?_⟩
  · have el : l = [] := by
      cases l with
      | nil => rfl
      | cons x r => cases e
    subst el
    exact fin _ b s1 upd_same
  · cases e
  · refine fin _ c (s1.trans (same_upd nc)) ?_
    rw [upd_same, List.map_append]
    rfl

/-! ### the options -/
/-- os: what one key makes of the held set l at the cost c -/
def OptsOk (k : Str) (p : Nat) (l : List Str) (c : Int) (os : List (List Str × Int)) : Prop :=
  (∀ x ∈ os, ∃ m e, Opt k p l m e ∧ x.1.Perm m ∧ x.2 = c + e) ∧ ∀ m e, Opt k p l m e → ∃ x ∈ os, x.1.Perm m ∧ x.2 = c + e
/-- the tuples of the options stand -/
def Ops (H : Hp) (ts : List Addr) (os : List (List Str × Int)) : Prop := Paired (fun t (x : List Str × Int) => ∃ q, H t = some (.tup [.ref q, .int x.2]) ∧ H q = some (.tup (x.1.map V.str))) ts os
theorem Ops.keep {H H' : Hp} {ts : List Addr} {os : List (List Str × Int)} (h : Ops H ts os) (k : ∀ b xs, H b = some (.tup xs) → H' b = some (.tup xs)) : Ops H' ts os :=
  Paired.mapP h fun _ _ ⟨q, a, b⟩ => ⟨q, k _ _ a, k _ _ b⟩
theorem filt_erase {h : List Str} (hnd : h.Nodup) (z : Str) : (h.filter fun x => decide (x ≠ z)) = h.erase z := by
  rw [hnd.erase_eq_filter]
  refine List.filter_congr fun x _ => ?_
  by_cases c : x = z
  · subst c
    simp
  · simp [c]
theorem pow_le : ∀ {j : Nat}, j ≤ 12 → 3 ^ j ≤ 531441 := fun {j} h => by
  have : (3 : Nat) ^ j ≤ 3 ^ 12 := Nat.pow_le_pow_right (by decide) h
  exact Nat.le_trans this (by decide)
theorem big_line {n : Nat} (h : n ≤ 1600000) : n < sizeLine := by
  rw [sizeLine_eq]
  omega
end K44

namespace K44
open PySem PySem.Spec PyProof.Rows L2
section
variable {P : Program} {w : World} {K : PySem.W.Frag} {mg : Str → Option Value} {base : Heap}

theorem tyes2 {σ : L2.St} {H : Hp} {A B : Hp → Prop} (h : A H) : tYes σ H (fun b H3 => if b = true then A H3 else B H3) := iteT (A := A H) (B := B H) h
def spLeast (K : PySem.W.Frag) : Sp := fun vs H Q _ => ∃ (a : Addr) (ks : List Str) (p : Nat) (rs : List (Option Str)), vs = [.ref a, .int (p : Int)] ∧ H a = some (.lst (ks.map V.str)) ∧ ks.length ≤ 12 ∧ 1 ≤ p ∧ p ≤ 3 ∧ Serve (Far ltS) p [] ks rs ∧
  ∀ H', Same H H' → Q (.int (cost [] ks rs)) H'
theorem ok_least {f : Addr} {fd : FuncData} {k : Nat} (F : Fun K "_law_least" "_law_least" sLeast f fd) (ml : mg "len" = none) (mt : mg "tuple" = none) (ms : mg "sorted" = none) (mn : mg "min" = none) :
    FnOk P w K mg base CX0 (k + 1) f fd ["_law_keys_here", "_law_places"] (spLeast K) := by
  refine F.ok scLeast (fun vs H Q E h => ?_) (fun cdv A outer s H vs Q E hr h => ?_)
  · obtain ⟨a, ks, p, rs, rfl, _⟩ := h
    rfl
  · obtain ⟨a, ks, p, rs, rfl, hA, hlen, hp1, hp3, hfar, q⟩ := h
    have hu := hu_of hr
    refine ⟨_, pss_cons (ps_set (i := 2) scLeast.nd rfl (.inr rfl) (pe_dispT1 hu (pe_tup pa_nil) pe_int))
      (pss_cons (ps_for PassesOwn.never rfl (pi_list (pv 0)) (pg_name (i := 3) scLeast.nd rfl (.inl rfl))
        (pss_cons (ps_set (i := 4) scLeast.nd rfl (.inl rfl) pe_dnewT)
        (pss_cons (ps_lock (ps_for PassesOwn.never rfl (pi_keys (pv 2)) (pg_name (i := 5) scLeast.nd rfl (.inl rfl))
          (C8.pss_cut (ps_if (pt_cmpR op_in_seq (pv 3) (pv 5) (by rfl))
              (pss_one (ps_set (i := 6) scLeast.nd rfl (.inl rfl) (pe_lst (pa_cons (pe_tup (pa_cons (pv 5) (pa_cons (pe_dget hu (pv 2) (pv 5) (fun _ _ => rfl)) pa_nil))) pa_nil))))
              (pss_one (ps_if (pt_cmpR op_lt (pe_callB call_len_seq (by rfl) ml PySem.boot_len (pa_cons (pv 5) pa_nil)) (pv 1) (nomark _))
                (pss_one (ps_set (i := 6) scLeast.nd rfl (.inl rfl) (pe_lst (pa_cons (pe_tup (pa_cons
                  (PE.imp (pe_callTy call_tuple_of (by rfl) mt (by decide +kernel) (pa_cons (pe_callB cr_sortedTS (by rfl) ms (by decide +kernel) (pa_cons (pe_op op_catA (pv 5) (pe_tup (pa_cons (pv 3) pa_nil))) pa_nil)) pa_nil)) (tsk_imp K 5))
                  (pa_cons (pe_op op_add (pe_dget hu (pv 2) (pv 5) (fun _ _ => rfl)) pe_int) pa_nil))) pa_nil))))
                (pss_cons (ps_set (i := 6) scLeast.nd rfl (.inl rfl) (pe_lst pa_nil))
                (pss_one (ps_for PassesOwn.never rfl (pi_tup (pv 5)) (pg_name (i := 7) scLeast.nd rfl (.inr rfl))
                  (pss_cons (ps_set (i := 8) scLeast.nd rfl (.inl rfl) (pe_callTy call_tuple_of (by rfl) mt (by decide +kernel) (pa_cons
                    (pe_lc (own := [("_law_other", 11)]) (g := gName 11) rfl scLeast.nd (pi_tup (pv 5)) (blkOk_by (N := ["_law_keys_here", "_law_places", "_law_costs", "_law_key", "_law_following", "_law_held", "_law_options", "_law_removed", "_law_rest", "_law_found", "_law_cost", "_law_other"]) (sc := defScope sLeast) (by decide +kernel))
                      (fun _ _ _ _ _ => pg_name (i := 11) scLeast.nd rfl (.inl rfl)) (fun _ _ _ _ _ => pts_one (pt_cmpR op_ne (pv 11) (pv 7) (nomark _))) (fun _ _ _ _ _ => pv 11)) pa_nil)))
                  (pss_one (ps_expr (pe_bm PySem.F.plainAttrs_list PySem.F.slot_list_append PySem.F.type_list_append mt_append (pv 6) (pa_cons (pe_tup (pa_cons
                    (PE.imp (pe_callTy call_tuple_of (by rfl) mt (by decide +kernel) (pa_cons (pe_callB cr_sortedTS (by rfl) ms (by decide +kernel) (pa_cons (pe_op op_catA (pv 8) (pe_tup (pa_cons (pv 3) pa_nil))) pa_nil)) pa_nil)) (tsk_imp K 8))
                    (pa_cons (pe_op op_add (pe_dget hu (pv 2) (pv 5) (fun _ _ => rfl)) pe_int) pa_nil))) pa_nil)))))))))))
          (pss_one (ps_for PassesOwn.never rfl (pi_list (pv 6)) (pg_tup rfl (pgs_cons (pg_name (i := 9) scLeast.nd rfl (.inl rfl)) (pgs_cons (pg_name (i := 10) scLeast.nd rfl (.inl rfl)) pgs_nil)))
            (pss_one (ps_dput hu (pv 4) (pv 9) (pe_callB (call_min2 rfl) (by rfl) mn (by decide +kernel) (pa_cons (pv 10) (pa_cons (pe_dget2 hu (pv 4) (pv 9) (pv 10) ⟨rfl, rfl, rfl, rfl⟩) pa_nil))) rfl)))))))
        (pss_one (ps_set (i := 2) scLeast.nd rfl (.inr rfl) (pv 4))))))
      (pss_one (ps_ret (pe_callB (cr_min rfl) (by rfl) mn (by decide +kernel) (pa_cons
        (pe_lock (pe_lc (own := [("_law_held", 5)]) (g := gName 5) (tt := tYes) rfl scLeast.nd (pi_keys (pv 2)) (blkOk_by (N := ["_law_keys_here", "_law_places", "_law_costs", "_law_key", "_law_following", "_law_held", "_law_options", "_law_removed", "_law_rest", "_law_found", "_law_cost", "_law_other"]) (sc := defScope sLeast) (by decide +kernel))
          (fun _ _ _ _ _ => pg_name (i := 5) scLeast.nd rfl (.inl rfl)) (fun _ _ _ _ _ => pts_nil) (fun _ _ _ _ _ => pe_dget hu (pv 2) (pv 5) (fun _ _ => rfl)))) pa_nil))))), ?_⟩
    -- costs = {(): 0}
    refine fun d0 nd0 => ⟨Nat.zero_le _, fun t0 nt0 => ⟨t0, [], rfl, upd_same, ?_, ?_⟩⟩
    · rw [upd_ne (ne_of_none upd_same nt0), upd_same]
    have s0 : Same H (upd (upd (upd H d0 (.dT [])) t0 (.tup [])) d0 (.dT (emb [([], 0)]))) := fun b o e => by
      rw [upd_ne (ne_of_none e nd0)]
      exact (same_upd nd0).trans (same_upd (o := .tup []) nt0) b o e
    -- for key in keys
    refine ⟨.ref a, rfl, a, rfl, ⟨_, SqL.of (s0 _ _ hA)⟩, ?_⟩
    refine for_list (xs := ks.map V.str) (fun j σ H' => ∃ (d : Addr) (ms : List (List Str × Int)) (y3 y4 y5 y6 y7 y8 y9 y10 : Option V), σ = [some (.ref a), some (.int (p : Int)), some (.ref d), y3, y4, y5, y6, y7, y8, y9, y10, none] ∧ Same H H' ∧ H d = none ∧ H' d = some (.dT (emb ms)) ∧
        (∀ x ∈ ms, Sound p ks (ks.drop j) x.1 x.2) ∧ Trk (Track p (ks.drop j) (cost [] ks rs)) ms ∧ ms.length ≤ 3 ^ j)
      ⟨d0, [([], 0)], none, none, none, none, none, none, none, none, rfl, s0, nd0, upd_same, fun x hx => ?_, ⟨[], 0, rfl, Track.start hfar⟩, Nat.le_refl _⟩ (fun j σ H' _ hP => ?_) (fun j x σ H' hx hP => ?_) fun σ H' hP => ?_
    · rw [List.mem_singleton.mp hx]
      exact Sound.start p ks
    · obtain ⟨_, _, _, _, _, _, _, _, _, _, _, sm, _⟩ := hP
      exact SqL.of (sm _ _ hA)
    · obtain ⟨d, ms, y3, y4, y5, y6, y7, y8, y9, y10, rfl, sm, nd, hd, hms, htr, hml⟩ := hP
      rw [List.getElem?_map] at hx
      obtain ⟨k, gk, rfl⟩ := Option.map_eq_some_iff.mp hx
      have hj : j < ks.length := (List.getElem?_eq_some_iff.mp gk).1
      rw [drop_cons gk] at hms htr
      have hml2 : ms.length ≤ 531441 := Nat.le_trans hml (pow_le (by omega))
      -- following = {}
      refine fun e ne => ?_
      have hde : d ≠ e := ne_of_none hd ne
      have ne0 : H e = none := sm.free ne
      have hd2 : (upd H' e (.dT [])) d = some (.dT (emb ms)) := by
        rw [upd_ne hde]
        exact hd
      refine ⟨d, .dT (emb ms), hd2, True.intro, fun od => ⟨.ref d, rfl, d, od, rfl, .inr ⟨emb ms, upd_same, ?_⟩⟩⟩
      refine for_it (walk_keysT (d := d) (o := od) (kvs := emb ms)) (fun i σ H3 => ∃ (fs : List (List Str × Int)) (y5 y6 y7 y8 y9 y10 : Option V), σ = [some (.ref a), some (.int (p : Int)), some (.ref d), some (.str k), some (.ref e), y5, y6, y7, y8, y9, y10, none] ∧ Same H H3 ∧
          H3 d = some (.frz od (.dT (emb ms))) ∧ H3 e = some (.dT (emb fs)) ∧ (∀ x ∈ fs, Sound p ks (ks.drop (j + 1)) x.1 x.2) ∧
          (∀ (i' : Nat) (l : List Str) (c : Int), i' < i → (ms[i']?).map (·.1) = some l → getM ms l = some c → Track p (k :: ks.drop (j + 1)) (cost [] ks rs) l c → Trk (Track p (ks.drop (j + 1)) (cost [] ks rs)) fs) ∧ fs.length ≤ 3 * i)
        ⟨[], y5, y6, y7, y8, y9, y10, rfl, fun b o eb => ?_, upd_same, ?_, fun x hx => (nomatch hx), fun i' l c hi' => absurd hi' (Nat.not_lt_zero _), Nat.le_refl _⟩ (fun i σ H3 _ hP => ?_) (fun i x σ H3 H4 hi hP hY => ?_) fun σ H3 hP => ?_
      · rw [upd_ne (ne_of_none eb nd), upd_ne (ne_of_none eb ne0)]
        exact sm b o eb
      · rw [upd_ne (Ne.symm hde), upd_same]
        rfl
      · obtain ⟨_, _, _, _, _, _, _, _, _, h, _⟩ := hP
        exact h
      · obtain ⟨fs, z5, z6, z7, z8, z9, z10, rfl, sm3, hd3, he3, hfs, htk, hfl⟩ := hP
        obtain ⟨rfl, kk, v, qh, hkv, rfl, hq⟩ := hY
        obtain ⟨l, c0, hl, rfl, rfl⟩ := emb_get hkv
        rw [ky_kV] at hq
        obtain ⟨c, hc⟩ := getM_some_of_mem (List.mem_of_getElem? hl)
        rw [emb_len] at hi
        have hsd : Sound p ks (k :: ks.drop (j + 1)) l c := hms _ (getM_mem hc)
        have hll : l.length ≤ 3 := Nat.le_trans hsd.1.le hp3
        have dg : ∀ {H5 : Hp}, Same H4 H5 → DGet H5 d (.ref qh) (some (.int c)) := fun {H5} s5 => by
          have := dget_at (ms := ms) (.inr ⟨od, s5 _ _ hd3⟩) (s5 _ _ hq)
          rw [hc] at this
          exact this
        refine ⟨fun σ2 H2 => ∃ (o : Addr) (ts : List Addr) (os : List (List Str × Int)) (y7 y8 y9 y10 : Option V), σ2 = [some (.ref a), some (.int (p : Int)), some (.ref d), some (.str k), some (.ref e), some (.ref qh), some (.ref o), y7, y8, y9, y10, none] ∧ Same H4 H2 ∧ H2 o = some (.lst (ts.map V.ref)) ∧ Ops H2 ts os ∧ OptsOk k p l c os ∧ os.length ≤ 3, ?_, fun σ2 H2 hM => ?_⟩
        · -- the options
          refine ⟨.str k, rfl, .ref qh, rfl, qh, l.map V.str, rfl, .inr (SqT.of hq), rfl, flat_strs l, _, rfl, ?_⟩
          show if inV (.str k) (l.map V.str) = true then _ else _
          rw [inV_str]
          refine ite2 (fun e1 => ?_) (fun e1 => ?_)
          · have hk : k ∈ l := of_decide_eq_true e1
            refine ⟨.ref qh, rfl, .ref d, rfl, .ref qh, rfl, d, .int c, rfl, dg (Same.refl _), sz1000 (show 2 ≤ 1000 by decide), fun t nt => ⟨sz1000 (show 1 ≤ 1000 by decide), fun o no => ?_⟩⟩
            have s5 : Same H4 (upd H4 t (.tup [.ref qh, .int c])) := same_upd nt
            have s6 := same_upd (o := .lst [.ref t]) no
            refine ⟨o, [t], [(l, c)], z7, z8, z9, z10, rfl, s5.trans s6, upd_same, .cons ⟨qh, s6 _ _ upd_same, s6 _ _ (s5 _ _ hq)⟩ .nil, ⟨fun x hx => ?_, fun m e2 om => ?_⟩, show 1 ≤ 3 by decide⟩
            · rw [List.mem_singleton.mp hx]
              exact ⟨l, 0, .inl ⟨hk, rfl, rfl⟩, .refl _, (Int.add_zero _).symm⟩
            · rcases om with ⟨_, rfl, rfl⟩ | ⟨n, _⟩ | ⟨n, _⟩
              · exact ⟨_, List.mem_cons_self, .refl _, (Int.add_zero _).symm⟩
              · exact absurd hk n
              · exact absurd hk n
          · have hk : k ∉ l := fun z => e1 (decide_eq_true z)
            refine ⟨.ref qh, rfl, qh, l.map V.str, rfl, .inr (SqT.of hq), .int (p : Int), rfl, _, _, rfl, rfl, _, rfl, ?_⟩
            rw [List.length_map]
            refine ite2 (fun e2 => ?_) (fun e2 => ?_)
            · have hp : l.length < p := by
                have := of_decide_eq_true e2
                omega
              refine ⟨qh, l, k, rfl, rfl, hq, by omega, fun H5 q' l' s5 nq' hperm hq' => ⟨.ref d, rfl, .ref qh, rfl, d, .int c, rfl, dg s5, c, 1, rfl, rfl, sz1000 (show 2 ≤ 1000 by decide), fun t nt => ⟨sz1000 (show 1 ≤ 1000 by decide), fun o no => ?_⟩⟩⟩
              have s6 : Same H5 (upd H5 t (.tup [.ref q', .int (c + 1)])) := same_upd nt
              have s7 := same_upd (o := .lst [.ref t]) no
              refine ⟨o, [t], [(l', c + 1)], z7, z8, z9, z10, rfl, (s5.trans s6).trans s7, upd_same, .cons ⟨q', s7 _ _ upd_same, s7 _ _ (s6 _ _ hq')⟩ .nil, ⟨fun x hx => ?_, fun m e3 om => ?_⟩, show 1 ≤ 3 by decide⟩
              · rw [List.mem_singleton.mp hx]
                exact ⟨l ++ [k], 1, .inr (.inl ⟨hk, hp, rfl, rfl⟩), hperm, rfl⟩
              · rcases om with ⟨n, _⟩ | ⟨_, _, rfl, rfl⟩ | ⟨_, n, _⟩
                · exact absurd n hk
                · exact ⟨_, List.mem_cons_self, hperm, rfl⟩
                · exact absurd hp n
            · have hp : ¬ l.length < p := fun z => e2 (decide_eq_true (by omega))
              refine ⟨Nat.zero_le _, fun o no => ⟨.ref qh, rfl, qh, rfl, ⟨_, SqT.of (same_upd no _ _ hq)⟩, ?_⟩⟩
              refine for_tup (xs := l.map V.str) (fun t σ H5 => ∃ (ts : List Addr) (os : List (List Str × Int)) (y7 y8 : Option V), σ = [some (.ref a), some (.int (p : Int)), some (.ref d), some (.str k), some (.ref e), some (.ref qh), some (.ref o), y7, y8, z9, z10, none] ∧ Same H4 H5 ∧ H5 o = some (.lst (ts.map V.ref)) ∧ Ops H5 ts os ∧ os.length = t ∧
                  (∀ x ∈ os, ∃ z ∈ l, x.1.Perm (l.erase z ++ [k]) ∧ x.2 = c + 1) ∧ ∀ z ∈ l.take t, ∃ x ∈ os, x.1.Perm (l.erase z ++ [k]) ∧ x.2 = c + 1)
                ⟨[], [], z7, z8, rfl, same_upd no, upd_same, .nil, rfl, fun _ h => (nomatch h), fun z hz => by rw [List.take_zero] at hz; cases hz⟩ (fun t σ H5 _ hP => ?_) (fun t x σ H5 hx hP => ?_) fun σ H5 hP => ?_
              · obtain ⟨_, _, _, _, _, s5, _⟩ := hP
                exact SqT.of (s5 _ _ hq)
              · obtain ⟨ts, os, y7, y8, rfl, s5, ho, hops, hol, ho1, ho2⟩ := hP
                rw [List.getElem?_map] at hx
                obtain ⟨z, hz, rfl⟩ := Option.map_eq_some_iff.mp hx
                have hzl : z ∈ l := List.mem_of_getElem? hz
                have htl : t < l.length := (List.getElem?_eq_some_iff.mp hz).1
                -- rest = tuple([..])
                refine ⟨.ref qh, rfl, qh, rfl, ⟨_, SqT.of (s5 _ _ hq)⟩, fun D nD => lc_tup (xs := l.map V.str) (fun i2 H6 => Same H5 H6 ∧ H6 D = some (.lst (((l.take i2).filter fun x => decide (x ≠ z)).map V.str))) ⟨same_upd nD, upd_same⟩ (fun i2 H6 _ hP => SqT.of (hP.1 _ _ (s5 _ _ hq))) (fun i2 x H6 hx hP => ?_) fun H6 hP => ?_⟩
                · obtain ⟨s6, hD⟩ := hP
                  rw [List.getElem?_map] at hx
                  obtain ⟨y, hy, rfl⟩ := Option.map_eq_some_iff.mp hx
                  have et : l.take (i2 + 1) = l.take i2 ++ [y] := by rw [List.take_add_one, hy]; rfl
                  refine ⟨rfl, .str y, rfl, .str z, rfl, rfl, _, rfl, ite2 (fun e3 => ?_) (fun e3 => ?_)⟩
                  · have hyz : y ≠ z := fun c => by
                      subst c
                      rw [decide_eq_true rfl] at e3
                      exact Bool.noConfusion e3
                    refine ⟨.str y, rfl, _, hD, ?_, fun b ob eb => ?_, ?_⟩
                    · rw [List.length_map]
                      refine small1000 (Nat.le_trans (List.length_filter_le _ _) ?_)
                      rw [List.length_take]
                      omega
                    · rw [upd_ne (ne_of_none eb nD)]
                      exact s6 b ob eb
                    · rw [upd_same, et, List.filter_append, List.map_append]
                      rw [show List.filter (fun x => decide (x ≠ z)) [y] = [y] from List.filter_cons_of_pos (decide_eq_true hyz)]
                      rfl
                  · have hyz : y = z := by
                      by_cases c : y = z
                      · exact c
                      · exact absurd (by rw [decide_eq_false (fun q => c (V.str.inj q))]; rfl) e3
                    refine ⟨s6, ?_⟩
                    rw [hD, et, List.filter_append, hyz]
                    rw [show List.filter (fun x => decide (x ≠ z)) [z] = [] by simp]
                    rw [List.append_nil]
                · obtain ⟨s6, hD⟩ := hP
                  rw [List.length_map, List.take_length, filt_erase hsd.1.nd] at hD
                  refine ⟨D, _, rfl, .inl ⟨SqL.of hD, fun q8 nq8 => ?_⟩⟩
                  have s7 : Same H5 (upd H6 q8 (.tup ((l.erase z).map V.str))) := s6.trans (same_upd nq8)
                  have hel : (l.erase z).length ≤ l.length := List.length_erase_le
                  -- options.append(..)
                  refine ⟨.ref o, rfl, .inl ⟨rfl, _, SqL.of (s7 _ _ ho)⟩, q8, l.erase z, k, rfl, rfl, upd_same, by omega, fun H7 q' l' s8 nq' hperm hq' => ⟨.ref d, rfl, .ref qh, rfl, d, .int c, rfl, dg ((s5.trans s7).trans s8), c, 1, rfl, rfl, sz1000 (show 2 ≤ 1000 by decide), fun t2 nt2 => ?_⟩⟩
                  have s9 : Same H7 (upd H7 t2 (.tup [.ref q', .int (c + 1)])) := same_upd nt2
                  have sA : Same H5 (upd H7 t2 (.tup [.ref q', .int (c + 1)])) := (s7.trans s8).trans s9
                  have hoA := sA _ _ ho
                  have ktup : ∀ {b : Addr} {xs : List V} {ob : HO}, (upd H7 t2 (.tup [.ref q', .int (c + 1)])) b = some (.tup xs) → (upd (upd H7 t2 (.tup [.ref q', .int (c + 1)])) o ob) b = some (.tup xs) := fun {b xs ob} eb => by
                    rw [upd_ne (ne_of eb hoA (fun z => nomatch z))]
                    exact eb
                  have htsl : ts.length = os.length := Paired.length hops
                  refine ⟨o, _, _, rfl, rfl, hoA, small1000 (by rw [List.length_map]; omega), ts ++ [t2], os ++ [(l', c + 1)], some (.str z), some (.ref q8), rfl, fun b ob eb => ?_, ?_, ?_, by rw [List.length_append, hol]; rfl, ?_, ?_⟩
                  · by_cases hbo : b = o
                    · exfalso
                      rw [hbo, no] at eb
                      cases eb
                    · rw [upd_ne hbo]
                      exact sA _ _ (s5 _ _ eb)
                  · rw [upd_same, List.map_append]
                    rfl
                  · exact Paired.snoc (hops.keep fun b xs eb => ktup (sA _ _ eb)) ⟨q', ktup upd_same, ktup (s9 _ _ hq')⟩
                  · intro x hx
                    rcases List.mem_append.mp hx with hx | hx
                    · exact ho1 x hx
                    · rw [List.mem_singleton.mp hx]
                      exact ⟨z, hzl, hperm, rfl⟩
                  · intro z2 hz2
                    rw [List.take_add_one, hz] at hz2
                    rcases List.mem_append.mp hz2 with hz2 | hz2
                    · obtain ⟨x, hx, h1, h2⟩ := ho2 z2 hz2
                      exact ⟨x, List.mem_append_left _ hx, h1, h2⟩
                    · have e4 : z2 = z := by
                        have : z2 ∈ [z] := hz2
                        exact List.mem_singleton.mp this
                      rw [e4]
                      exact ⟨_, List.mem_append_right _ List.mem_cons_self, hperm, rfl⟩
              · obtain ⟨ts, os, y7, y8, rfl, s5, ho, hops, hol, ho1, ho2⟩ := hP
                rw [List.length_map, List.take_length] at ho2
                rw [List.length_map] at hol
                refine ⟨o, ts, os, y7, y8, z9, z10, rfl, s5, ho, hops, ⟨fun x hx => ?_, fun m e3 om => ?_⟩, by omega⟩
                · obtain ⟨z, hz, h1, h2⟩ := ho1 x hx
                  exact ⟨_, 1, .inr (.inr ⟨hk, hp, z, hz, rfl, rfl⟩), h1, h2⟩
                · rcases om with ⟨n, _⟩ | ⟨_, n, _⟩ | ⟨_, _, z, hz, rfl, rfl⟩
                  · exact absurd n hk
                  · exact absurd n hp
                  · exact ho2 z hz
        · -- the options are put in
          obtain ⟨o, ts, os, y7, y8, y9, y10, rfl, s2, ho, hops, ⟨oo1, oo2⟩, hol⟩ := hM
          have he2 := s2 _ _ he3
          have hoe : o ≠ e := ne_of ho he2 (fun z => nomatch z)
          have htsl : ts.length = os.length := Paired.length hops
          refine ⟨.ref o, rfl, o, rfl, ⟨_, SqL.of ho⟩, ?_⟩
          refine for_list (xs := ts.map V.ref) (fun t σ H7 => ∃ (fs' : List (List Str × Int)) (y9 y10 : Option V), σ = [some (.ref a), some (.int (p : Int)), some (.ref d), some (.str k), some (.ref e), some (.ref qh), some (.ref o), y7, y8, y9, y10, none] ∧ But e H2 H7 ∧ H7 e = some (.dT (emb fs')) ∧
              (∀ x ∈ fs', Sound p ks (ks.drop (j + 1)) x.1 x.2) ∧ (Trk (Track p (ks.drop (j + 1)) (cost [] ks rs)) fs → Trk (Track p (ks.drop (j + 1)) (cost [] ks rs)) fs') ∧
              (∀ x ∈ os.take t, Track p (ks.drop (j + 1)) (cost [] ks rs) x.1 x.2 → Trk (Track p (ks.drop (j + 1)) (cost [] ks rs)) fs') ∧ fs'.length ≤ fs.length + t)
            ⟨fs, y9, y10, rfl, But.refl _ _, he2, hfs, fun h => h, fun x hx => (by rw [List.take_zero] at hx; cases hx), Nat.le_refl _⟩ (fun t σ H7 _ hP => ?_) (fun t x σ H7 hx hP => ?_) fun σ H7 hP => ?_
          · obtain ⟨_, _, _, _, bt, _⟩ := hP
            exact SqL.of (bt _ _ hoe ho)
          · obtain ⟨fs', y9, y10, rfl, bt, he7, hfs', hold, hnew, hfl'⟩ := hP
            rw [List.getElem?_map] at hx
            obtain ⟨tt, htt, rfl⟩ := Option.map_eq_some_iff.mp hx
            obtain ⟨⟨l', c'⟩, hox, q', h1, h2⟩ := paired_get hops htt
            have htl : t < os.length := (List.getElem?_eq_some_iff.mp hox).1
            have h17 : H7 tt = some (.tup [.ref q', .int c']) := bt _ _ (ne_of h1 he2 (fun z => nomatch z)) h1
            have h27 : H7 q' = some (.tup (l'.map V.str)) := bt _ _ (ne_of h2 he2 (fun z => nomatch z)) h2
            have hsz : fs'.length < sizeLine := big_line (by omega)
            refine ⟨tt, [.ref q', .int c'], rfl, SqT.of h17, rfl, .ref q', [.int c'], rfl, .int c', [], rfl, rfl, ?_⟩
            refine ⟨.int c', rfl, .ref e, rfl, e, rfl, .inr ⟨_, .inl he7⟩, .ref q', rfl, .int c', rfl, _, dget_at (.inl he7) h27, c', (getM fs' l').getD c', ?_, ?_⟩
            · cases getM fs' l' <;> rfl
            · refine ⟨.ref e, rfl, .ref q', rfl, e, _, rfl, dput_at he7 h27 hsz, ?_⟩
              have hmono : ∀ (k1 : List Str) (c1 c2 : Int), Track p (ks.drop (j + 1)) (cost [] ks rs) k1 c1 → c2 ≤ c1 → Track p (ks.drop (j + 1)) (cost [] ks rs) k1 c2 := fun _ _ _ h h' => h.mono h'
              refine ⟨putL fs' l' c', some (.ref q'), some (.int c'), rfl, bt.trans but_upd, upd_same, ?_, fun h => putL_old hmono (hold h), fun x hx tx => ?_, ?_⟩
              · obtain ⟨m, e3, om, pm, ee⟩ := oo1 _ (List.mem_of_getElem? hox)
                refine putL_sound hfs' ?_
                have : c' = c + e3 := ee
                rw [this]
                exact hsd.step om pm
              · rw [List.take_add_one, hox] at hx
                rcases List.mem_append.mp hx with hx | hx
                · exact putL_old hmono (hnew x hx tx)
                · have e4 : x = (l', c') := by
                    have : x ∈ [(l', c')] := hx
                    exact List.mem_singleton.mp this
                  rw [e4] at tx
                  exact putL_new hmono tx
              · have := putL_len fs' l' c'
                omega
          · obtain ⟨fs', y9, y10, rfl, bt, he7, hfs', hold, hnew, hfl'⟩ := hP
            rw [List.length_map] at hnew hfl'
            rw [htsl, List.take_length] at hnew
            refine ⟨fs', some (.ref qh), some (.ref o), y7, y8, y9, y10, rfl, fun b ob eb => ?_, bt _ _ hde (s2 _ _ hd3), he7, hfs', fun i' l1 c1 hi' h1 h2 tk => ?_, by omega⟩
            · exact bt _ _ (ne_of_none eb ne0) (s2 _ _ (sm3 _ _ eb))
            · by_cases hii : i' = i
              · subst hii
                rw [hl] at h1
                have e4 : l = l1 := Option.some.inj h1
                subst e4
                rw [hc] at h2
                obtain rfl := Option.some.inj h2
                obtain ⟨m, e5, om, tm⟩ := tk.step
                obtain ⟨x, hx, px, ex⟩ := oo2 m e5 om
                refine hnew x hx ?_
                rw [ex]
                exact tm _ px
              · exact hold (htk i' l1 c1 (by omega) h1 h2 tk)
      · -- behind the loop over costs
        obtain ⟨fs, y5, y6, y7, y8, y9, y10, rfl, sm3, hd3, he3, hfs, htk, hfl⟩ := hP
        refine ⟨hd3, .ref e, rfl, e, fs, some (.str k), some (.ref e), y5, y6, y7, y8, y9, y10, rfl, fun b o eb => ?_, ne0, ?_, hfs, ?_, ?_⟩
        · rw [upd_ne (ne_of_none eb nd)]
          exact sm3 b o eb
        · rw [upd_ne (Ne.symm hde)]
          exact he3
        · obtain ⟨l, c, e1, tk⟩ := htr
          obtain ⟨i', hi', e2⟩ := List.getElem_of_mem (getM_mem e1)
          exact htk i' l c (by rw [emb_len]; exact hi') (by rw [List.getElem?_eq_getElem hi', e2]; rfl) e1 tk
        · rw [emb_len] at hfl
          rw [Nat.pow_succ]
          omega
    · -- return min([..])
      obtain ⟨d, ms, y3, y4, y5, y6, y7, y8, y9, y10, rfl, sm, nd, hd, hms, htr, hml⟩ := hP
      rw [List.length_map, List.drop_length] at hms htr
      rw [List.length_map] at hml
      have hml2 : ms.length ≤ 531441 := Nat.le_trans hml (pow_le hlen)
      refine ⟨d, .dT (emb ms), hd, True.intro, fun od => ⟨.ref d, rfl, d, od, rfl, .inr ⟨emb ms, upd_same, fun D nD => ?_⟩⟩⟩
      have hDd : d ≠ D := ne_of_none upd_same nD
      refine lc_it (walk_keysT (d := d) (o := od) (kvs := emb ms)) (fun i H5 => Same (upd H' d (.frz od (.dT (emb ms)))) H5 ∧ ∃ cs : List Int, H5 D = some (.lst (cs.map V.int)) ∧ cs.length = i ∧ (∀ c ∈ cs, ∃ l, (l, c) ∈ ms) ∧
          ∀ (i' : Nat) (l : List Str) (c : Int), i' < i → (ms[i']?).map (·.1) = some l → getM ms l = some c → c ∈ cs)
        ⟨same_upd nD, [], upd_same, rfl, fun _ h => (nomatch h), fun i' l c hi' => absurd hi' (Nat.not_lt_zero _)⟩ (fun i H5 _ hP => hP.1 _ _ upd_same) (fun i x H5 H6 hi hP hY => ?_) fun H5 hP => ?_
      · obtain ⟨sm5, cs, hD, hcl, hcs, hcc⟩ := hP
        obtain ⟨rfl, kk, v, qq, hkv, rfl, hq⟩ := hY
        obtain ⟨l, c0, hl, rfl, rfl⟩ := emb_get hkv
        rw [ky_kV] at hq
        obtain ⟨c, hc⟩ := getM_some_of_mem (List.mem_of_getElem? hl)
        rw [emb_len] at hi
        have dg := dget_at (ms := ms) (.inr ⟨od, sm5 _ _ upd_same⟩) hq
        rw [hc] at dg
        refine ⟨rfl, tyes2 ⟨.ref d, rfl, .ref qq, rfl, d, .int c, rfl, dg, _, hD, ?_, ?_, cs ++ [c], ?_, by rw [List.length_append, hcl]; rfl, ?_, ?_⟩⟩
        · rw [List.length_map]
          exact big_line (by omega)
        · exact fun b o eb => by
            rw [upd_ne (ne_of_none eb nD)]
            exact sm5 b o eb
        · rw [upd_same, List.map_append]
          rfl
        · intro c1 h1
          rcases List.mem_append.mp h1 with h1 | h1
          · exact hcs c1 h1
          · rw [List.mem_singleton.mp h1]
            exact ⟨l, getM_mem hc⟩
        · intro i' l1 c1 h1 h2 h3
          by_cases hii : i' = i
          · subst hii
            rw [hl] at h2
            have e2 : l = l1 := Option.some.inj h2
            subst e2
            rw [hc] at h3
            rw [Option.some.inj h3]
            exact List.mem_append_right _ List.mem_cons_self
          · exact List.mem_append_left _ (hcc i' l1 c1 (by omega) h2 h3)
      · obtain ⟨sm5, cs, hD, hcl, hcs, hcc⟩ := hP
        obtain ⟨l, c, e1, tk⟩ := htr
        obtain ⟨i', hi', e2⟩ := List.getElem_of_mem (getM_mem e1)
        have hcin : c ∈ cs := hcc i' l c (by rw [emb_len]; exact hi') (by rw [List.getElem?_eq_getElem hi', e2]; rfl) e1
        refine ⟨sm5 _ _ upd_same, D, cs, rfl, SqL.of (by rw [upd_ne (Ne.symm hDd)]; exact hD), List.length_pos_of_mem hcin, fun m hm hmin => ?_⟩
        obtain ⟨l2, h2⟩ := hcs m hm
        have g1 : cost [] ks rs ≤ m := Sound.stop (hms _ h2) hfar
        have g2 : c ≤ cost [] ks rs := tk.stop
        have g3 : m ≤ c := hmin c hcin
        rw [show m = cost [] ks rs by omega]
        refine q _ fun b o eb => ?_
        rw [upd_ne (ne_of_none eb nd)]
        refine sm5 b o ?_
        rw [upd_ne (ne_of_none eb nd)]
        exact sm b o eb
end
end K44

namespace K44
open PySem PySem.Spec PyProof.Rows L2
theorem dec_int_none (c : Int) : decide (V.int c = V.non) = false := decide_eq_false (fun e => nomatch e)
theorem few_eq (n : Nat) : (1 : Int) + (1 + (n : Int)) % 3 = ((1 + (1 + n) % 3 : Nat) : Int) := by omega
theorem cut12 (ks : List Str) : cutV (ks.map V.str) none (some 12) = (ks.take 12).map V.str := by
  unfold cutV
  rw [HT.sIx_none, show HT.sIx (ks.map V.str).length (ks.map V.str).length (some 12) = min 12 (ks.map V.str).length from HT.sIx_nat _ _ 12, Nat.sub_zero, List.drop_zero, List.map_take]
  exact (List.take_eq_take_min ..).symm
theorem But.sq {K : PySem.W.Frag} {a b : Addr} {xs : List V} {H H' : Hp} (h : But a H H') (n : b ≠ a) (e : H b = some (.lst xs)) : SqL K H' b xs := SqL.of (h _ _ n e)
section
variable {P : Program} {w : World} {K : PySem.W.Frag} {mg : Str → Option Value} {base : Heap}
def spLaw (K : PySem.W.Frag) : Sp := fun vs H Q _ => ∃ (a : Addr) (ns : List Int), vs = [.ref a] ∧ SqL K H a (ns.map V.int) ∧ ns.length ≤ 63 ∧ ∀ H', Q (.bl true) H'
theorem ok_law {f fS fD fK fR fV fI fW fL : Addr} {fd fdS fdD fdK fdR fdV fdI fdW fdL : FuncData} (F : Fun K "law" "law" sLaw f fd)
    (GS : FnOk P w K mg base CX0 1 fS fdS ["_law_script"] (spState K)) (kS : PySem.W.keepIn K (.ref fS) = true) (bS : Binds K fdS ["_law_script"] []) (gS : mg "_law_state" = some (.ref fS))
    (GD : FnOk P w K mg base CX0 3 fD fdD ["_law_state_here", "_law_many"] (spDraw K)) (kD : PySem.W.keepIn K (.ref fD) = true) (bD : Binds K fdD ["_law_state_here", "_law_many"] []) (gD : mg "_law_draw" = some (.ref fD))
    (GK : FnOk P w K mg base CX0 4 fK fdK ["_law_state_here", "_law_many"] (spKeys K)) (kK : PySem.W.keepIn K (.ref fK) = true) (bK : Binds K fdK ["_law_state_here", "_law_many"] []) (gK : mg "_law_keys" = some (.ref fK))
    (GR : FnOk P w K mg base CX0 4 fR fdR ["keys", "places"] (spFarRem K)) (kR : PySem.W.keepIn K (.ref fR) = true) (bR : Binds K fdR ["keys", "places"] []) (gR : mg "farthest_removals" = some (.ref fR))
    (GV : FnOk P w K mg base CX0 1 fV fdV ["_law_keys_here", "_law_places", "_law_removals"] (spServed K)) (kV : PySem.W.keepIn K (.ref fV) = true) (bV : Binds K fdV ["_law_keys_here", "_law_places", "_law_removals"] []) (gV : mg "_law_served" = some (.ref fV))
    (GI : FnOk P w K mg base CX0 2 fI fdI ["_law_keys_here", "_law_places", "_law_removals"] (spIsFar K)) (kI : PySem.W.keepIn K (.ref fI) = true) (bI : Binds K fdI ["_law_keys_here", "_law_places", "_law_removals"] []) (gI : mg "_law_is_farthest" = some (.ref fI))
    (GW : FnOk P w K mg base CX0 4 fW fdW ["_law_state_here", "_law_keys_here", "_law_places"] (spDrawn K)) (kW : PySem.W.keepIn K (.ref fW) = true) (bW : Binds K fdW ["_law_state_here", "_law_keys_here", "_law_places"] []) (gW : mg "_law_drawn_removals" = some (.ref fW))
    (GL : FnOk P w K mg base CX0 1 fL fdL ["_law_keys_here", "_law_places"] (spLeast K)) (kL : PySem.W.keepIn K (.ref fL) = true) (bL : Binds K fdL ["_law_keys_here", "_law_places"] []) (gL : mg "_law_least" = some (.ref fL))
    (mls : mg "list" = none) (mr : mg "range" = none) (mi : mg "int" = none) : FnOk P w K mg base CX0 5 f fd ["_law_script"] (spLaw K) := by
  refine F.ok scLaw (fun vs H Q E h => ?_) (fun cdv A outer s H vs Q E hr h => ?_)
  · obtain ⟨a, ns, rfl, _⟩ := h
    rfl
  · obtain ⟨a, ns, rfl, hS, h63, q⟩ := h
    refine ⟨_, pss_cons (ps_set (i := 1) scLaw.nd rfl (.inl rfl) (pe_call GS (hr.mono (by decide)) (by rfl) gS kS bS .nil pass0 (pa_cons (pv 0) pa_nil)))
      (pss_cons (ps_set (i := 2) scLaw.nd rfl (.inl rfl) (pe_call GK hr (by rfl) gK kK bK .nil pass0 (pa_cons (pv 1) (pa_cons (pe_call GD (hr.mono (by decide)) (by rfl) gD kD bD .nil pass0 (pa_cons (pv 1) (pa_cons pe_int pa_nil))) pa_nil))))
      (pss_cons (ps_set (i := 3) scLaw.nd rfl (.inl rfl) (pe_op op_add pe_int (pe_call GD (hr.mono (by decide)) (by rfl) gD kD bD .nil pass0 (pa_cons (pv 1) (pa_cons pe_int pa_nil)))))
      (pss_cons (ps_set (i := 4) scLaw.nd rfl (.inl rfl) (pe_call GR hr (by rfl) gR kR bR .nil pass0 (pa_cons (pe_callTy call_list_of (by rfl) mls (by decide +kernel) (pa_cons (pv 2) pa_nil)) (pa_cons (pv 3) pa_nil))))
      (pss_cons (ps_set (i := 5) scLaw.nd rfl (.inl rfl) (pe_call GV (hr.mono (by decide)) (by rfl) gV kV bV .nil pass0 (pa_cons (pv 2) (pa_cons (pv 3) (pa_cons (pv 4) pa_nil)))))
      (pss_cons (ps_if (PW.pt (pw_or (pt_cmpR op_isN (pv 5) pe_non (nomark _)) (pw_or1 (pt_not (pt_val (pe_call GI (hr.mono (by decide)) (by rfl) gI kI bI .nil pass0 (pa_cons (pv 2) (pa_cons (pv 3) (pa_cons (pv 4) pa_nil)))))))))
        (pss_one (ps_ret pe_bl)) pss_nil)
      (pss_cons (ps_for PassesOwn.never rfl (pi_range1 (by rfl) mr (pa_cons pe_int pa_nil)) (pg_name (i := 6) scLaw.nd rfl (.inl rfl))
        (pss_cons (ps_set (i := 7) scLaw.nd rfl (.inl rfl) (pe_call GV (hr.mono (by decide)) (by rfl) gV kV bV .nil pass0 (pa_cons (pv 2) (pa_cons (pv 3) (pa_cons (pe_call GW hr (by rfl) gW kW bW .nil pass0 (pa_cons (pv 1) (pa_cons (pv 2) (pa_cons (pv 3) pa_nil)))) pa_nil)))))
        (pss_one (ps_if (PW.pt (pw_or (pt_cmpR op_isN (pv 7) pe_non (nomark _)) (pw_or1 (pt_cmpR op_lt (pv 7) (pv 5) (nomark _))))) (pss_one (ps_ret pe_bl)) pss_nil))))
      (pss_cons (ps_set (i := 8) scLaw.nd rfl (.inl rfl) (pe_slice sl_list (pv 2) po_none (po_some pe_int)))
      (pss_cons (ps_set (i := 9) scLaw.nd rfl (.inl rfl) (pe_op op_add pe_int (pe_op op_mod (pe_callTy call_int1 (by rfl) mi (by decide +kernel) (pa_cons (pv 3) pa_nil)) pe_int)))
      (pss_cons (ps_set (i := 10) scLaw.nd rfl (.inl rfl) (pe_call GV (hr.mono (by decide)) (by rfl) gV kV bV .nil pass0 (pa_cons (pv 8) (pa_cons (pv 9) (pa_cons
        (pe_call GR hr (by rfl) gR kR bR .nil pass0 (pa_cons (pe_callTy call_list_of (by rfl) mls (by decide +kernel) (pa_cons (pv 8) pa_nil)) (pa_cons (pv 9) pa_nil))) pa_nil)))))
      (pss_one (ps_ret (pe_and (pe_cmpR op_notN (pv 10) pe_non (nomark _)) (pe_one (pe_cmpR op_eq (pv 10) (pe_call GL (hr.mono (by decide)) (by rfl) gL kL bL .nil pass0 (pa_cons (pv 8) (pa_cons (pv 9) pa_nil))) (nomark _))))))))))))))), ?_⟩
    -- the state, the keys, the places
    refine ⟨.ref a, rfl, a, ns, rfl, hS, h63, fun H1 st sl s1 nst st1 => ?_⟩
    refine ⟨.ref st, rfl, .ref st, rfl, st, sl, 61, rfl, st1, by decide, by decide, fun H2 n b2 st2 n0 n1 => ?_⟩
    obtain ⟨m, rfl⟩ : ∃ m : Nat, n = (m : Int) := ⟨n.toNat, by omega⟩
    refine ⟨st, sl, m, rfl, st2, by omega, fun H3 b ks b3 st3 nb hb hkl => ?_⟩
    obtain ⟨nbst, nbsl⟩ := st2.new nb
    refine ⟨.ref st, rfl, st, sl, 8, rfl, st3, by decide, by decide, fun H4 n8 b4 st4 p0 p1 => ?_⟩
    obtain ⟨p, rfl⟩ : ∃ p : Nat, n8 = (p : Int) := ⟨n8.toNat, by omega⟩
    have hb4 := b4 _ _ nbst hb
    have hk60 : ks.length ≤ 60 := by omega
    -- farthest_removals(list(keys), places)
    refine ⟨1, (p : Int), rfl, rfl, .ref b, rfl, b, ks.map V.str, rfl, .inl (SqL.of hb4), fun c nc => ⟨_, rfl, c, ks, 1 + p, rfl, SqL.of upd_same, hk60, by omega, by omega, fun H5 r rs s5 nr hr5 hsv => ?_⟩⟩
    have s45 : Same H4 H5 := (same_upd nc).trans s5
    -- fetches
    refine ⟨.ref b, rfl, _, rfl, .ref r, rfl, b, r, ks, rs, 1 + p, rfl, SqL.of (s45 _ _ hb4), hr5, hk60, by omega, hsv.mono (fun _ _ _ _ => True.intro), fun H6 s6 => ?_⟩
    refine ⟨.int (cost [] ks rs), rfl, rfl, _, rfl, ?_⟩
    rw [dec_int_none]
    refine iteF ⟨.ref b, rfl, _, rfl, .ref r, rfl, b, r, ks, rs, 1 + p, rfl, SqL.of (s6 _ _ (s45 _ _ hb4)), s6 _ _ hr5, hk60, by omega, hsv, fun H7 s7 => ⟨true, rfl, iteF ?_⟩⟩
    have s47 : Same H4 H7 := (s45.trans s6).trans s7
    have hb7 := s47 _ _ hb4
    have st7 := st4.keep s47
    -- the drawn lists
    refine ⟨6, rfl, by decide, by decide, ?_⟩
    refine for_range (fun j σ H' => ∃ y6 y7 : Option V, σ = [some (.ref a), some (.ref st), some (.ref b), some (.int (1 + (p : Int))), some (.ref r), some (.int (cost [] ks rs)), y6, y7, none, none, none] ∧ But st H7 H' ∧ StOk H' st sl)
      ⟨none, none, rfl, But.refl _ _, st7⟩ (fun j σ H' hj hP => ?_) fun σ H' hP => ?_
    · obtain ⟨y6, y7, rfl, bt, so⟩ := hP
      refine ⟨.ref b, rfl, _, rfl, .ref st, rfl, .ref b, rfl, _, rfl, st, sl, b, ks, 1 + p, rfl, so, bt _ _ nbst hb7, nbst, hk60, by omega, by omega, fun H8 r2 rs2 b8 st8 nr2 hr2 hsv2 => ?_⟩
      refine ⟨b, r2, ks, rs2, 1 + p, rfl, SqL.of (b8 _ _ nbst (bt _ _ nbst hb7)), hr2, hk60, by omega, hsv2, fun H9 s9 => ?_⟩
      refine ⟨.int (cost [] ks rs2), rfl, rfl, _, rfl, ?_⟩
      rw [dec_int_none]
      refine iteF ⟨_, rfl, _, rfl, _, _, rfl, rfl, _, rfl, ?_⟩
      have hle := far_least hsv hsv2
      rw [decide_eq_false (show ¬ cost [] ks rs2 < cost [] ks rs by omega)]
      exact iteF ⟨_, _, rfl, (bt.trans b8).trans (Same.but s9), st8.keep s9⟩
    · obtain ⟨y6, y7, rfl, bt, so⟩ := hP
      have hbE := bt _ _ nbst hb7
      -- the short list
      refine ⟨.ref b, rfl, 12, rfl, b, _, rfl, SqL.of hbE, fun c2 nc2 => ?_⟩
      rw [cut12]
      refine ⟨_, rfl, .inl ⟨_, rfl, _, 3, rfl, rfl, (show (0 : Int) < 3 by decide), 1, _, rfl, rfl, ?_⟩⟩
      have hts : (ks.take 12).length ≤ 12 := by
        rw [List.length_take]
        omega
      have hfew : (1 + p) % 3 < 3 := Nat.mod_lt _ (by decide)
      refine ⟨.ref c2, rfl, _, rfl, .ref c2, rfl, c2, _, rfl, .inl (SqL.of upd_same), fun c3 nc3 => ⟨_, rfl, c3, ks.take 12, 1 + (1 + p) % 3, congrArg (fun z => [V.ref c3, V.int z]) (few_eq p), SqL.of upd_same, by omega, by omega, by omega, fun H10 r3 rs3 s10 nr3 hr3 hsv3 => ?_⟩⟩
      have s210 : Same (upd H' c2 (.lst ((ks.take 12).map V.str))) H10 := (same_upd nc3).trans s10
      have hc10 := s210 _ _ upd_same
      refine ⟨c2, r3, ks.take 12, rs3, 1 + (1 + p) % 3, congrArg (fun z => [V.ref c2, V.int z, V.ref r3]) (few_eq p), SqL.of hc10, hr3, by omega, by omega, hsv3.mono (fun _ _ _ _ => True.intro), fun H11 s11 => ?_⟩
      refine ⟨.int (cost [] (ks.take 12) rs3), rfl, rfl, _, rfl, ?_⟩
      rw [dec_int_none]
      refine iteT ⟨_, rfl, .ref c2, rfl, _, rfl, c2, ks.take 12, 1 + (1 + p) % 3, rs3, congrArg (fun z => [V.ref c2, V.int z]) (few_eq p), s11 _ _ hc10, hts, by omega, by omega, hsv3, fun H12 s12 => ⟨rfl, ?_⟩⟩
      rw [decide_eq_true rfl]
      exact q _
end
end K44

namespace K44
open PySem PySem.Spec PyProof.Rows L2
/-- one def of the text, as the top leaves it -/
structure Left (K : PySem.W.Frag) (mg : Str → Option Value) (x : Str) (st : Stmt) (ps : List Str) (f : Addr) (fd : FuncData) : Prop where
  at_ : mg x = some (.ref f)
  fn : Fun K x x st f fd
  bi : Binds K fd ps []
theorem left_mk {K : PySem.W.Frag} {mg : Str → Option Value} {h : Heap} {x : Str} {st : Stmt} {ps : List Str} {f : Addr} {oc : Value} {od an : Option Addr} {osl : Array (Option Value)} {kV doc pm cdv ct : Value} (X : K.In h) (G : h.Ns mainGlobals mg)
    (a : PySem.W.nsIn K mainGlobals x = some (some (.ref f))) (l : K.lookup f = some ⟨oc, od, .func (PySem.W.fnOf x x (defArgs st) (defBody st) (defScope st) .none kV doc pm an cdv ct), osl⟩) (c : PySem.W.codeIn K cdv x = true) (k : PySem.W.keepIn K (.ref f) = true)
    (hb : ∀ (kV doc pm : Value) (an : Option Addr) (cdv ct : Value) (us : List Value), us.length = ps.length → bindArgs (PySem.W.fnOf x x (defArgs st) (defBody st) (defScope st) .none kV doc pm an cdv ct) ⟨us, []⟩ = pure (ps.zip us)) :
    Left K mg x st ps f (PySem.W.fnOf x x (defArgs st) (defBody st) (defScope st) .none kV doc pm an cdv ct) :=
  have F := fun_mk (st := st) l c k
  ⟨PySem.W.mg_of X G a, F, F.binds (ps := ps) hb⟩
section
variable {P : Program} {w : World} {K : PySem.W.Frag} {mg : Str → Option Value} {base : Heap}
theorem whole {fHeld fNext fFar fRemBy fFarRem fMix fNum fState fDraw fKeys fServed fDrawn fLeast fLNext fIsFar fLaw : Addr} {dHeld dNext dFar dRemBy dFarRem dMix dNum dState dDraw dKeys dServed dDrawn dLeast dLNext dIsFar dLaw : FuncData}
    (LHeld : Left K mg "held_after" sHeld ["held", "places", "key", "removed"] fHeld dHeld)
    (LNext : Left K mg "next_use" sNext ["keys", "after", "key"] fNext dNext)
    (LFar : Left K mg "farthest" sFar ["keys", "at", "held"] fFar dFar)
    (LRemBy : Left K mg "removals_by" sRemBy ["keys", "places", "choose"] fRemBy dRemBy)
    (LFarRem : Left K mg "farthest_removals" sFarRem ["keys", "places"] fFarRem dFarRem)
    (LMix : Left K mg "_law_mix" sMix ["_law_cell"] fMix dMix)
    (LNum : Left K mg "_law_number" sNum ["_law_cell"] fNum dNum)
    (LState : Left K mg "_law_state" sState ["_law_script"] fState dState)
    (LDraw : Left K mg "_law_draw" sDraw ["_law_state_here", "_law_many"] fDraw dDraw)
    (LKeys : Left K mg "_law_keys" sKeys ["_law_state_here", "_law_many"] fKeys dKeys)
    (LServed : Left K mg "_law_served" sServed ["_law_keys_here", "_law_places", "_law_removals"] fServed dServed)
    (LDrawn : Left K mg "_law_drawn_removals" sDrawn ["_law_state_here", "_law_keys_here", "_law_places"] fDrawn dDrawn)
    (LLeast : Left K mg "_law_least" sLeast ["_law_keys_here", "_law_places"] fLeast dLeast)
    (LLNext : Left K mg "_law_next" sLNext ["_law_keys_here", "_law_at", "_law_key"] fLNext dLNext)
    (LIsFar : Left K mg "_law_is_farthest" sIsFar ["_law_keys_here", "_law_places", "_law_removals"] fIsFar dIsFar)
    (LLaw : Left K mg "law" sLaw ["_law_script"] fLaw dLaw)
    (z_len : mg "len" = none) (z_range : mg "range" = none) (z_sorted : mg "sorted" = none) (z_int : mg "int" = none) (z_list : mg "list" = none) (z_isinstance : mg "isinstance" = none) (z_tuple : mg "tuple" = none) (z_min : mg "min" = none) (z_max : mg "max" = none) : FnOk P w K mg base CX0 5 fLaw dLaw ["_law_script"] (spLaw K) := by
  have GRB : FnOk P w K mg base CX0 3 fRemBy dRemBy ["keys", "places", "choose"] (spRemBy K fFar) := ok_remby LRemBy.fn LFar.fn LNext.fn LHeld.fn LFar.bi LNext.bi LHeld.bi LNext.at_ LHeld.at_ z_range z_len z_sorted
  have GR : FnOk P w K mg base CX0 4 fFarRem dFarRem ["keys", "places"] (spFarRem K) := ok_farrem LFarRem.fn GRB LRemBy.fn.kp LRemBy.bi LRemBy.at_ LFar.at_
  have GD : FnOk P w K mg base CX0 3 fDraw dDraw ["_law_state_here", "_law_many"] (spDraw K) := ok_draw LDraw.fn LNum.fn LMix.fn LNum.bi LMix.bi LNum.at_ LMix.at_ z_int z_len
  exact ok_law LLaw.fn (ok_state LState.fn z_len z_list) LState.fn.kp LState.bi LState.at_
    GD LDraw.fn.kp LDraw.bi LDraw.at_
    (ok_keys LKeys.fn GD LDraw.fn.kp LDraw.bi LDraw.at_ z_range) LKeys.fn.kp LKeys.bi LKeys.at_
    GR LFarRem.fn.kp LFarRem.bi LFarRem.at_
    (ok_served LServed.fn z_isinstance z_list z_len z_range) LServed.fn.kp LServed.bi LServed.at_
    (ok_isfar LIsFar.fn LLNext.fn LLNext.bi LLNext.at_ z_max z_min z_len z_range) LIsFar.fn.kp LIsFar.bi LIsFar.at_
    (ok_drawn LDrawn.fn GD LDraw.fn.kp LDraw.bi LDraw.at_ z_len) LDrawn.fn.kp LDrawn.bi LDrawn.at_
    (ok_least LLeast.fn z_len z_tuple z_sorted z_min) LLeast.fn.kp LLeast.bi LLeast.at_
    z_list z_range z_int
end
theorem all_mk {l : PySem.W.OpenLaw} {w : World} {K : PySem.W.Frag} {h : Heap} {mg : Str → Option Value} {fa : Addr} (X : K.In h) (G : h.Ns mainGlobals mg) (hfa : mg "law" = some (.ref fa))
    {f1 : Addr} {od1 an1 : Option Addr} {sl1 : Array (Option Value)} {oc1 kV1 dc1 pm1 cd1 ct1 : Value}
    (a1 : PySem.W.nsIn K mainGlobals "held_after" = some (some (.ref f1))) (l1 : K.lookup f1 = some ⟨oc1, od1, .func (PySem.W.fnOf "held_after" "held_after" (defArgs sHeld) (defBody sHeld) (defScope sHeld) .none kV1 dc1 pm1 an1 cd1 ct1), sl1⟩) (c1 : PySem.W.codeIn K cd1 "held_after" = true) (k1 : PySem.W.keepIn K (.ref f1) = true)
    {f2 : Addr} {od2 an2 : Option Addr} {sl2 : Array (Option Value)} {oc2 kV2 dc2 pm2 cd2 ct2 : Value}
    (a2 : PySem.W.nsIn K mainGlobals "next_use" = some (some (.ref f2))) (l2 : K.lookup f2 = some ⟨oc2, od2, .func (PySem.W.fnOf "next_use" "next_use" (defArgs sNext) (defBody sNext) (defScope sNext) .none kV2 dc2 pm2 an2 cd2 ct2), sl2⟩) (c2 : PySem.W.codeIn K cd2 "next_use" = true) (k2 : PySem.W.keepIn K (.ref f2) = true)
    {f3 : Addr} {od3 an3 : Option Addr} {sl3 : Array (Option Value)} {oc3 kV3 dc3 pm3 cd3 ct3 : Value}
    (a3 : PySem.W.nsIn K mainGlobals "farthest" = some (some (.ref f3))) (l3 : K.lookup f3 = some ⟨oc3, od3, .func (PySem.W.fnOf "farthest" "farthest" (defArgs sFar) (defBody sFar) (defScope sFar) .none kV3 dc3 pm3 an3 cd3 ct3), sl3⟩) (c3 : PySem.W.codeIn K cd3 "farthest" = true) (k3 : PySem.W.keepIn K (.ref f3) = true)
    {f4 : Addr} {od4 an4 : Option Addr} {sl4 : Array (Option Value)} {oc4 kV4 dc4 pm4 cd4 ct4 : Value}
    (a4 : PySem.W.nsIn K mainGlobals "removals_by" = some (some (.ref f4))) (l4 : K.lookup f4 = some ⟨oc4, od4, .func (PySem.W.fnOf "removals_by" "removals_by" (defArgs sRemBy) (defBody sRemBy) (defScope sRemBy) .none kV4 dc4 pm4 an4 cd4 ct4), sl4⟩) (c4 : PySem.W.codeIn K cd4 "removals_by" = true) (k4 : PySem.W.keepIn K (.ref f4) = true)
    {f5 : Addr} {od5 an5 : Option Addr} {sl5 : Array (Option Value)} {oc5 kV5 dc5 pm5 cd5 ct5 : Value}
    (a5 : PySem.W.nsIn K mainGlobals "farthest_removals" = some (some (.ref f5))) (l5 : K.lookup f5 = some ⟨oc5, od5, .func (PySem.W.fnOf "farthest_removals" "farthest_removals" (defArgs sFarRem) (defBody sFarRem) (defScope sFarRem) .none kV5 dc5 pm5 an5 cd5 ct5), sl5⟩) (c5 : PySem.W.codeIn K cd5 "farthest_removals" = true) (k5 : PySem.W.keepIn K (.ref f5) = true)
    {f6 : Addr} {od6 an6 : Option Addr} {sl6 : Array (Option Value)} {oc6 kV6 dc6 pm6 cd6 ct6 : Value}
    (a6 : PySem.W.nsIn K mainGlobals "_law_mix" = some (some (.ref f6))) (l6 : K.lookup f6 = some ⟨oc6, od6, .func (PySem.W.fnOf "_law_mix" "_law_mix" (defArgs sMix) (defBody sMix) (defScope sMix) .none kV6 dc6 pm6 an6 cd6 ct6), sl6⟩) (c6 : PySem.W.codeIn K cd6 "_law_mix" = true) (k6 : PySem.W.keepIn K (.ref f6) = true)
    {f7 : Addr} {od7 an7 : Option Addr} {sl7 : Array (Option Value)} {oc7 kV7 dc7 pm7 cd7 ct7 : Value}
    (a7 : PySem.W.nsIn K mainGlobals "_law_number" = some (some (.ref f7))) (l7 : K.lookup f7 = some ⟨oc7, od7, .func (PySem.W.fnOf "_law_number" "_law_number" (defArgs sNum) (defBody sNum) (defScope sNum) .none kV7 dc7 pm7 an7 cd7 ct7), sl7⟩) (c7 : PySem.W.codeIn K cd7 "_law_number" = true) (k7 : PySem.W.keepIn K (.ref f7) = true)
    {f8 : Addr} {od8 an8 : Option Addr} {sl8 : Array (Option Value)} {oc8 kV8 dc8 pm8 cd8 ct8 : Value}
    (a8 : PySem.W.nsIn K mainGlobals "_law_state" = some (some (.ref f8))) (l8 : K.lookup f8 = some ⟨oc8, od8, .func (PySem.W.fnOf "_law_state" "_law_state" (defArgs sState) (defBody sState) (defScope sState) .none kV8 dc8 pm8 an8 cd8 ct8), sl8⟩) (c8 : PySem.W.codeIn K cd8 "_law_state" = true) (k8 : PySem.W.keepIn K (.ref f8) = true)
    {f9 : Addr} {od9 an9 : Option Addr} {sl9 : Array (Option Value)} {oc9 kV9 dc9 pm9 cd9 ct9 : Value}
    (a9 : PySem.W.nsIn K mainGlobals "_law_draw" = some (some (.ref f9))) (l9 : K.lookup f9 = some ⟨oc9, od9, .func (PySem.W.fnOf "_law_draw" "_law_draw" (defArgs sDraw) (defBody sDraw) (defScope sDraw) .none kV9 dc9 pm9 an9 cd9 ct9), sl9⟩) (c9 : PySem.W.codeIn K cd9 "_law_draw" = true) (k9 : PySem.W.keepIn K (.ref f9) = true)
    {f10 : Addr} {od10 an10 : Option Addr} {sl10 : Array (Option Value)} {oc10 kV10 dc10 pm10 cd10 ct10 : Value}
    (a10 : PySem.W.nsIn K mainGlobals "_law_keys" = some (some (.ref f10))) (l10 : K.lookup f10 = some ⟨oc10, od10, .func (PySem.W.fnOf "_law_keys" "_law_keys" (defArgs sKeys) (defBody sKeys) (defScope sKeys) .none kV10 dc10 pm10 an10 cd10 ct10), sl10⟩) (c10 : PySem.W.codeIn K cd10 "_law_keys" = true) (k10 : PySem.W.keepIn K (.ref f10) = true)
    {f11 : Addr} {od11 an11 : Option Addr} {sl11 : Array (Option Value)} {oc11 kV11 dc11 pm11 cd11 ct11 : Value}
    (a11 : PySem.W.nsIn K mainGlobals "_law_served" = some (some (.ref f11))) (l11 : K.lookup f11 = some ⟨oc11, od11, .func (PySem.W.fnOf "_law_served" "_law_served" (defArgs sServed) (defBody sServed) (defScope sServed) .none kV11 dc11 pm11 an11 cd11 ct11), sl11⟩) (c11 : PySem.W.codeIn K cd11 "_law_served" = true) (k11 : PySem.W.keepIn K (.ref f11) = true)
    {f12 : Addr} {od12 an12 : Option Addr} {sl12 : Array (Option Value)} {oc12 kV12 dc12 pm12 cd12 ct12 : Value}
    (a12 : PySem.W.nsIn K mainGlobals "_law_drawn_removals" = some (some (.ref f12))) (l12 : K.lookup f12 = some ⟨oc12, od12, .func (PySem.W.fnOf "_law_drawn_removals" "_law_drawn_removals" (defArgs sDrawn) (defBody sDrawn) (defScope sDrawn) .none kV12 dc12 pm12 an12 cd12 ct12), sl12⟩) (c12 : PySem.W.codeIn K cd12 "_law_drawn_removals" = true) (k12 : PySem.W.keepIn K (.ref f12) = true)
    {f13 : Addr} {od13 an13 : Option Addr} {sl13 : Array (Option Value)} {oc13 kV13 dc13 pm13 cd13 ct13 : Value}
    (a13 : PySem.W.nsIn K mainGlobals "_law_least" = some (some (.ref f13))) (l13 : K.lookup f13 = some ⟨oc13, od13, .func (PySem.W.fnOf "_law_least" "_law_least" (defArgs sLeast) (defBody sLeast) (defScope sLeast) .none kV13 dc13 pm13 an13 cd13 ct13), sl13⟩) (c13 : PySem.W.codeIn K cd13 "_law_least" = true) (k13 : PySem.W.keepIn K (.ref f13) = true)
    {f14 : Addr} {od14 an14 : Option Addr} {sl14 : Array (Option Value)} {oc14 kV14 dc14 pm14 cd14 ct14 : Value}
    (a14 : PySem.W.nsIn K mainGlobals "_law_next" = some (some (.ref f14))) (l14 : K.lookup f14 = some ⟨oc14, od14, .func (PySem.W.fnOf "_law_next" "_law_next" (defArgs sLNext) (defBody sLNext) (defScope sLNext) .none kV14 dc14 pm14 an14 cd14 ct14), sl14⟩) (c14 : PySem.W.codeIn K cd14 "_law_next" = true) (k14 : PySem.W.keepIn K (.ref f14) = true)
    {f15 : Addr} {od15 an15 : Option Addr} {sl15 : Array (Option Value)} {oc15 kV15 dc15 pm15 cd15 ct15 : Value}
    (a15 : PySem.W.nsIn K mainGlobals "_law_is_farthest" = some (some (.ref f15))) (l15 : K.lookup f15 = some ⟨oc15, od15, .func (PySem.W.fnOf "_law_is_farthest" "_law_is_farthest" (defArgs sIsFar) (defBody sIsFar) (defScope sIsFar) .none kV15 dc15 pm15 an15 cd15 ct15), sl15⟩) (c15 : PySem.W.codeIn K cd15 "_law_is_farthest" = true) (k15 : PySem.W.keepIn K (.ref f15) = true)
    {f16 : Addr} {od16 an16 : Option Addr} {sl16 : Array (Option Value)} {oc16 kV16 dc16 pm16 cd16 ct16 : Value}
    (a16 : PySem.W.nsIn K mainGlobals "law" = some (some (.ref f16))) (l16 : K.lookup f16 = some ⟨oc16, od16, .func (PySem.W.fnOf "law" "law" (defArgs sLaw) (defBody sLaw) (defScope sLaw) .none kV16 dc16 pm16 an16 cd16 ct16), sl16⟩) (c16 : PySem.W.codeIn K cd16 "law" = true) (k16 : PySem.W.keepIn K (.ref f16) = true)
    (z1 : PySem.W.nsIn K mainGlobals "len" = some none)
    (z2 : PySem.W.nsIn K mainGlobals "range" = some none)
    (z3 : PySem.W.nsIn K mainGlobals "sorted" = some none)
    (z4 : PySem.W.nsIn K mainGlobals "int" = some none)
    (z5 : PySem.W.nsIn K mainGlobals "list" = some none)
    (z6 : PySem.W.nsIn K mainGlobals "isinstance" = some none)
    (z7 : PySem.W.nsIn K mainGlobals "tuple" = some none)
    (z8 : PySem.W.nsIn K mainGlobals "min" = some none)
    (z9 : PySem.W.nsIn K mainGlobals "max" = some none)
    : ∃ fd : FuncData, (∀ (s : Shared) (v : Value), BindsTo s fd ⟨[v], []⟩ [("_law_script", v)]) ∧ ∀ base : Heap, K.In base → base.Ns mainGlobals mg → FnOk l.prog w K mg base CX0 5 fa fd ["_law_script"] (spLaw K) := by
  have e := hfa.symm.trans (PySem.W.mg_of X G a16)
  cases e
  have L1 := left_mk (st := sHeld) (ps := ["held", "places", "key", "removed"]) X G a1 l1 c1 k1 (fun _ _ _ _ _ _ us hl => match us, hl with | [_, _, _, _], _ => rfl)
  have L2 := left_mk (st := sNext) (ps := ["keys", "after", "key"]) X G a2 l2 c2 k2 (fun _ _ _ _ _ _ us hl => match us, hl with | [_, _, _], _ => rfl)
  have L3 := left_mk (st := sFar) (ps := ["keys", "at", "held"]) X G a3 l3 c3 k3 (fun _ _ _ _ _ _ us hl => match us, hl with | [_, _, _], _ => rfl)
  have L4 := left_mk (st := sRemBy) (ps := ["keys", "places", "choose"]) X G a4 l4 c4 k4 (fun _ _ _ _ _ _ us hl => match us, hl with | [_, _, _], _ => rfl)
  have L5 := left_mk (st := sFarRem) (ps := ["keys", "places"]) X G a5 l5 c5 k5 (fun _ _ _ _ _ _ us hl => match us, hl with | [_, _], _ => rfl)
  have L6 := left_mk (st := sMix) (ps := ["_law_cell"]) X G a6 l6 c6 k6 (fun _ _ _ _ _ _ us hl => match us, hl with | [_], _ => rfl)
  have L7 := left_mk (st := sNum) (ps := ["_law_cell"]) X G a7 l7 c7 k7 (fun _ _ _ _ _ _ us hl => match us, hl with | [_], _ => rfl)
  have L8 := left_mk (st := sState) (ps := ["_law_script"]) X G a8 l8 c8 k8 (fun _ _ _ _ _ _ us hl => match us, hl with | [_], _ => rfl)
  have L9 := left_mk (st := sDraw) (ps := ["_law_state_here", "_law_many"]) X G a9 l9 c9 k9 (fun _ _ _ _ _ _ us hl => match us, hl with | [_, _], _ => rfl)
  have L10 := left_mk (st := sKeys) (ps := ["_law_state_here", "_law_many"]) X G a10 l10 c10 k10 (fun _ _ _ _ _ _ us hl => match us, hl with | [_, _], _ => rfl)
  have L11 := left_mk (st := sServed) (ps := ["_law_keys_here", "_law_places", "_law_removals"]) X G a11 l11 c11 k11 (fun _ _ _ _ _ _ us hl => match us, hl with | [_, _, _], _ => rfl)
  have L12 := left_mk (st := sDrawn) (ps := ["_law_state_here", "_law_keys_here", "_law_places"]) X G a12 l12 c12 k12 (fun _ _ _ _ _ _ us hl => match us, hl with | [_, _, _], _ => rfl)
  have L13 := left_mk (st := sLeast) (ps := ["_law_keys_here", "_law_places"]) X G a13 l13 c13 k13 (fun _ _ _ _ _ _ us hl => match us, hl with | [_, _], _ => rfl)
  have L14 := left_mk (st := sLNext) (ps := ["_law_keys_here", "_law_at", "_law_key"]) X G a14 l14 c14 k14 (fun _ _ _ _ _ _ us hl => match us, hl with | [_, _, _], _ => rfl)
  have L15 := left_mk (st := sIsFar) (ps := ["_law_keys_here", "_law_places", "_law_removals"]) X G a15 l15 c15 k15 (fun _ _ _ _ _ _ us hl => match us, hl with | [_, _, _], _ => rfl)
  have L16 := left_mk (st := sLaw) (ps := ["_law_script"]) X G a16 l16 c16 k16 (fun _ _ _ _ _ _ us hl => match us, hl with | [_], _ => rfl)
  exact ⟨_, fun s v => .of_eq rfl, fun base _ _ => whole L1 L2 L3 L4 L5 L6 L7 L8 L9 L10 L11 L12 L13 L14 L15 L16 (PySem.W.mg_none_of X G z1) (PySem.W.mg_none_of X G z2) (PySem.W.mg_none_of X G z3) (PySem.W.mg_none_of X G z4) (PySem.W.mg_none_of X G z5) (PySem.W.mg_none_of X G z6) (PySem.W.mg_none_of X G z7) (PySem.W.mg_none_of X G z8) (PySem.W.mg_none_of X G z9)⟩
end K44
open PySem PySem.W PyProof.Rows
set_option maxHeartbeats 0 in
theorem PySem.Challenge.cw_leasehall_k44_whole_farthest_is_least_holds : PySem.Challenge.rw_leasehall_k44_whole_farthest_is_least.Holds := by
  w_on; o_law; k_head; (case hw => w_witness2)
  k_fill
  refine L2.walk_of (l := PySem.Challenge.rw_leasehall_k44_whole_farthest_is_least) (n := 63) (k := 5) (x := "_law_script") (CX := fun _ => L2.CX0) (sp := fun w => K44.spLaw _) rfl (by decide) rfl ⟨rfl, by decide, by decide⟩ (fun w h Y => PySem.W.kIn_of Y) ?F (fun _ _ a ns hl _ hS => ⟨a, ns, rfl, hS, hl, fun _ => rfl⟩) (fun _ _ _ _ _ h => h)
  case F =>
    intro w mg fa h KX G hmg
    refine' K44.all_mk KX G hmg ?a1 ?l1 ?c1 ?k1 ?a2 ?l2 ?c2 ?k2 ?a3 ?l3 ?c3 ?k3 ?a4 ?l4 ?c4 ?k4 ?a5 ?l5 ?c5 ?k5 ?a6 ?l6 ?c6 ?k6 ?a7 ?l7 ?c7 ?k7 ?a8 ?l8 ?c8 ?k8 ?a9 ?l9 ?c9 ?k9 ?a10 ?l10 ?c10 ?k10 ?a11 ?l11 ?c11 ?k11 ?a12 ?l12 ?c12 ?k12 ?a13 ?l13 ?c13 ?k13 ?a14 ?l14 ?c14 ?k14 ?a15 ?l15 ?c15 ?k15 ?a16 ?l16 ?c16 ?k16 ?z1 ?z2 ?z3 ?z4 ?z5 ?z6 ?z7 ?z8 ?z9
    (case a1 => k_is); (case l1 => k_is); (case c1 => k_is); (case k1 => k_is); (case a2 => k_is); (case l2 => k_is); (case c2 => k_is); (case k2 => k_is); (case a3 => k_is); (case l3 => k_is); (case c3 => k_is); (case k3 => k_is); (case a4 => k_is); (case l4 => k_is); (case c4 => k_is); (case k4 => k_is); (case a5 => k_is); (case l5 => k_is); (case c5 => k_is); (case k5 => k_is); (case a6 => k_is); (case l6 => k_is); (case c6 => k_is); (case k6 => k_is); (case a7 => k_is); (case l7 => k_is); (case c7 => k_is); (case k7 => k_is); (case a8 => k_is); (case l8 => k_is); (case c8 => k_is); (case k8 => k_is); (case a9 => k_is); (case l9 => k_is); (case c9 => k_is); (case k9 => k_is); (case a10 => k_is); (case l10 => k_is); (case c10 => k_is); (case k10 => k_is); (case a11 => k_is); (case l11 => k_is); (case c11 => k_is); (case k11 => k_is); (case a12 => k_is); (case l12 => k_is); (case c12 => k_is); (case k12 => k_is); (case a13 => k_is); (case l13 => k_is); (case c13 => k_is); (case k13 => k_is); (case a14 => k_is); (case l14 => k_is); (case c14 => k_is); (case k14 => k_is); (case a15 => k_is); (case l15 => k_is); (case c15 => k_is); (case k15 => k_is); (case a16 => k_is); (case l16 => k_is); (case c16 => k_is); (case k16 => k_is); (case z1 => k_is); (case z2 => k_is); (case z3 => k_is); (case z4 => k_is); (case z5 => k_is); (case z6 => k_is); (case z7 => k_is); (case z8 => k_is); (case z9 => k_is)

