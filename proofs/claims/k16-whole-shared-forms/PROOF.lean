import PyProof.Rows.All
import Wide.All
import OpenK.AllK
import Wide.FinOn
import HandS.ForMost
import HandS.Style
import HandS.Conv
import HandS.TupAny
import HandS.CallLocal
import HandS.Deep
import KE.SortData
import KE.KDictKeyed
import KE.KDictOf
import PyProof.ReprLen
import KE.GoesEnum
import HandS.Walk
import KE.KDictDisplayH
import PySem.Challenge.RW_allendless_k16_whole_shared_forms
import KE.KStateDown
import Lean
import HandS.Head0
import HandS.Head1
import HandS.Head2
import HandS.HeadEnd
import HandS.HeadHook1
/-! Trees of questions, their values, the least tree by all fillings: plain Lean. -/
set_option autoImplicit false
set_option linter.unusedVariables false
namespace K16
open Classical

abbrev Pl := Nat × Nat
inductive Va where
  | z | o | zo | zz
  deriving DecidableEq
inductive Tr where
  | fin (v : Va)
  | ask (p : Pl) (bs : List Tr)
instance : Inhabited Tr := ⟨.fin .z⟩

theorem Tr.ind {motive : Tr → Prop} (h1 : ∀ v, motive (.fin v)) (h2 : ∀ p bs, (∀ b ∈ bs, motive b) → motive (.ask p bs)) (t : Tr) : motive t :=
  Tr.rec (motive_1 := motive) (motive_2 := fun bs => ∀ b ∈ bs, motive b) h1 h2 (fun _ h => nomatch h)
    (fun b bs hb hbs c hc => (List.mem_cons.mp hc).elim (fun e => e ▸ hb) (hbs c)) t

mutual
def ev : Tr → (Pl → Nat) → Va
  | .fin v, _ => v
  | .ask p bs, f => evs bs (f p) f
def evs : List Tr → Nat → (Pl → Nat) → Va
  | [], _, _ => .z
  | b :: _, 0, f => ev b f
  | _ :: bs, n + 1, f => evs bs n f
end
theorem evs_at {f : Pl → Nat} : ∀ {bs : List Tr} {n : Nat} {b : Tr}, bs[n]? = some b → evs bs n f = ev b f
  | [], _, _, h => by simp at h
  | c :: bs, 0, b, h => by simp at h; subst h; rfl
  | c :: bs, n + 1, b, h => by
    rw [List.getElem?_cons_succ] at h
    show evs bs n f = ev b f
    exact evs_at h
theorem ev_fin (v : Va) (f : Pl → Nat) : ev (.fin v) f = v := rfl
theorem ev_ask {p : Pl} {bs : List Tr} {f : Pl → Nat} {b : Tr} (h : bs[f p]? = some b) : ev (.ask p bs) f = ev b f := evs_at h

/-! nodes -/
mutual
def nd : Tr → Nat
  | .fin _ => 1
  | .ask _ bs => 1 + nds bs
def nds : List Tr → Nat
  | [] => 0
  | b :: bs => nd b + nds bs
end
theorem nd_pos (t : Tr) : 0 < nd t := by cases t <;> simp [nd] <;> omega
theorem nds_append : ∀ (xs ys : List Tr), nds (xs ++ ys) = nds xs + nds ys
  | [], ys => by simp [nds]
  | x :: xs, ys => by rw [List.cons_append, nds, nds, nds_append xs ys]; omega
theorem nds_mem : ∀ {bs : List Tr} {b : Tr}, b ∈ bs → nd b ≤ nds bs
  | c :: bs, b, h => by
    rw [nds]
    rcases List.mem_cons.mp h with e | h
    · subst e; omega
    · have := nds_mem h; omega
theorem nd_lt {p : Pl} {bs : List Tr} {b : Tr} (h : b ∈ bs) : nd b < nd (.ask p bs) := by
  have := nds_mem h
  rw [nd]; omega
theorem nds_le {c : Nat} : ∀ {bs : List Tr}, (∀ b ∈ bs, nd b ≤ c) → nds bs ≤ bs.length * c
  | [], _ => by simp [nds]
  | b :: bs, h => by
    have h1 := h b List.mem_cons_self
    have h2 := nds_le (bs := bs) fun x hx => h x (List.mem_cons_of_mem _ hx)
    rw [nds, List.length_cons, Nat.succ_mul]; omega

/-! depth -/
mutual
def dp : Tr → Nat
  | .fin _ => 0
  | .ask _ bs => 1 + dps bs
def dps : List Tr → Nat
  | [] => 0
  | b :: bs => max (dp b) (dps bs)
end
theorem dps_mem : ∀ {bs : List Tr} {b : Tr}, b ∈ bs → dp b ≤ dps bs
  | c :: bs, b, h => by
    rw [dps]
    rcases List.mem_cons.mp h with e | h
    · subst e; omega
    · have := dps_mem h; omega
theorem dps_le {c : Nat} : ∀ {bs : List Tr}, (∀ b ∈ bs, dp b ≤ c) → dps bs ≤ c
  | [], _ => by simp [dps]
  | b :: bs, h => by
    have h1 := h b List.mem_cons_self
    have h2 := dps_le (bs := bs) fun x hx => h x (List.mem_cons_of_mem _ hx)
    rw [dps]; omega

/-! right trees over places -/
def rem (P : List Pl) (p : Pl) : List Pl := P.filter fun q => decide (q ≠ p)
inductive Wf (m : Nat → Nat) : List Pl → Tr → Prop
  | fin {P : List Pl} {v : Va} : Wf m P (.fin v)
  | ask {P : List Pl} {p : Pl} {bs : List Tr} : p ∈ P → bs.length = m p.2 → (∀ b ∈ bs, Wf m (rem P p) b) → Wf m P (.ask p bs)

theorem mem_rem {P : List Pl} {p q : Pl} : q ∈ rem P p ↔ q ∈ P ∧ q ≠ p := by
  unfold rem; rw [List.mem_filter]; simp
theorem rem_nodup {P : List Pl} {p : Pl} (h : P.Nodup) : (rem P p).Nodup := h.filter _
theorem rem_length {P : List Pl} {p : Pl} (hp : p ∈ P) : (rem P p).length < P.length := by
  unfold rem
  exact List.length_filter_lt_length_iff_exists.mpr ⟨p, hp, by simp⟩
theorem Wf.mono {m : Nat → Nat} {P : List Pl} {t : Tr} (h : Wf m P t) : ∀ {Q : List Pl}, (∀ p ∈ P, p ∈ Q) → Wf m Q t := by
  induction h with
  | fin => intro Q _; exact .fin
  | ask hp hl _ ih =>
    intro Q hs
    exact .ask (hs _ hp) hl fun b hb => ih b hb fun q hq => mem_rem.mpr ⟨hs _ (mem_rem.mp hq).1, (mem_rem.mp hq).2⟩
theorem Wf.dep {m : Nat → Nat} {P : List Pl} {t : Tr} (h : Wf m P t) : dp t ≤ P.length := by
  induction h with
  | fin => simp [dp]
  | ask hp hl _ ih =>
    have h1 := rem_length hp
    rw [dp]
    have h2 := dps_le (c := _) ih
    omega
/-- digits in range -/
def Vd (m : Nat → Nat) (P : List Pl) (f : Pl → Nat) : Prop := ∀ p ∈ P, f p < m p.2
theorem Wf.congr {m : Nat → Nat} {P : List Pl} {t : Tr} (h : Wf m P t) {f g : Pl → Nat} (e : ∀ p ∈ P, f p = g p) (hf : Vd m P f) : ev t f = ev t g := by
  induction h with
  | fin => rfl
  | @ask P p bs hp hl _ ih =>
    have hlt : f p < bs.length := by rw [hl]; exact hf p hp
    have e1 : bs[f p]? = some bs[f p] := List.getElem?_eq_getElem hlt
    rw [ev_ask e1, ev_ask (f := g) (by rw [← e p hp]; exact e1)]
    exact ih _ (List.getElem_mem hlt) (fun q hq => e q (mem_rem.mp hq).1) fun q hq => hf q (mem_rem.mp hq).1

/-! fillings as functions -/
def st (f : Pl → Nat) (p : Pl) (d : Nat) : Pl → Nat := fun q => if q = p then d else f q
noncomputable def ovr (P : List Pl) (r g : Pl → Nat) : Pl → Nat := fun q => if q ∈ P then g q else r q
theorem st_same {f : Pl → Nat} {p : Pl} {d : Nat} : st f p d p = d := by simp [st]
theorem st_ne {f : Pl → Nat} {p q : Pl} {d : Nat} (h : q ≠ p) : st f p d q = f q := by simp [st, h]
theorem st_self (f : Pl → Nat) (p : Pl) : st f p (f p) = f := by
  funext q; unfold st; split
  · rename_i e; rw [e]
  · rfl
theorem st_st (f : Pl → Nat) (p : Pl) (d e : Nat) : st (st f p d) p e = st f p e := by
  funext q; unfold st; split <;> rfl
theorem st_comm (f : Pl → Nat) {p q : Pl} (d e : Nat) (h : p ≠ q) : st (st f p d) q e = st (st f q e) p d := by
  funext x; unfold st
  by_cases h1 : x = q
  · subst h1; rw [if_pos rfl, if_neg (Ne.symm h), if_pos rfl]
  · rw [if_neg h1, if_neg h1]
theorem Vd.st {m : Nat → Nat} {P : List Pl} {f : Pl → Nat} {p : Pl} {d : Nat} (h : Vd m P f) (hd : d < m p.2) : Vd m P (st f p d) := by
  intro q hq
  unfold K16.st; split
  · rename_i e; rw [e]; exact hd
  · exact h q hq
theorem ovr_nil (r g : Pl → Nat) : ovr [] r g = r := by funext q; simp [ovr]
theorem ovr_cons {p : Pl} {P : List Pl} (hp : p ∉ P) (r g : Pl → Nat) : ovr (p :: P) r g = ovr P (st r p (g p)) g := by
  funext q
  unfold ovr st
  by_cases h : q = p
  · subst h; simp [hp]
  · simp [h]
theorem ovr_st {p : Pl} {P : List Pl} (hp : p ∉ P) (r g : Pl → Nat) (d : Nat) : ovr P (st r p d) g = st (ovr P r g) p d := by
  funext q
  unfold ovr st
  by_cases h : q = p
  · subst h; simp [hp]
  · simp [h]
theorem ovr_vd {m : Nat → Nat} {P Q : List Pl} {r g : Pl → Nat} (hg : Vd m P g) (hr : Vd m Q r) : Vd m Q (ovr P r g) := by
  intro q hq
  unfold ovr; split
  · rename_i h; exact hg q h
  · exact hr q hq
theorem ovr_vdP {m : Nat → Nat} {P : List Pl} {r g : Pl → Nat} (hg : Vd m P g) : Vd m P (ovr P r g) := by
  intro q hq
  unfold ovr; rw [if_pos hq]; exact hg q hq
theorem ovr_all {P : List Pl} {r g : Pl → Nat} {q : Pl} (h : q ∈ P) : ovr P r g q = g q := by unfold ovr; rw [if_pos h]
theorem ovr_out {P : List Pl} {r g : Pl → Nat} {q : Pl} (h : q ∉ P) : ovr P r g q = r q := by unfold ovr; rw [if_neg h]

/-! the least tree by all fillings -/
/-- the first branch if all are it, else the question -/
noncomputable def mk (p : Pl) (bs : List Tr) : Tr := if ∀ b ∈ bs, b = bs.headD default then bs.headD default else .ask p bs
noncomputable def low (m : Nat → Nat) : List Pl → ((Pl → Nat) → Va) → (Pl → Nat) → Tr
  | [], F, r => .fin (F r)
  | p :: P, F, r => mk p ((List.range (m p.2)).map fun d => low m P F (st r p d))

theorem low_congr {m : Nat → Nat} {F G : (Pl → Nat) → Va} : ∀ {P : List Pl} {r r' : Pl → Nat}, P.Nodup → (∀ p ∈ P, 0 < m p.2) → (∀ g, Vd m P g → F (ovr P r g) = G (ovr P r' g)) → low m P F r = low m P G r'
  | [], r, r', _, _, h => by
    have := h (fun _ => 0) (fun _ hp => nomatch hp)
    rw [ovr_nil, ovr_nil] at this
    rw [low, low, this]
  | p :: P, r, r', hn, hm, h => by
    rw [low, low]
    have hp : p ∉ P := (List.nodup_cons.mp hn).1
    congr 1
    refine List.map_congr_left fun d hd => ?_
    refine low_congr (List.nodup_cons.mp hn).2 (fun q hq => hm q (List.mem_cons_of_mem _ hq)) fun g hg => ?_
    have hg' : Vd m (p :: P) (st g p d) := by
      intro q hq
      unfold st; split
      · rename_i e; rw [e]; exact List.mem_range.mp hd
      · rename_i e; exact hg q ((List.mem_cons.mp hq).resolve_left e)
    have h1 := h (st g p d) hg'
    rw [ovr_cons hp, ovr_cons hp, st_same] at h1
    have e : ∀ r : Pl → Nat, ovr P (st r p d) (st g p d) = ovr P (st r p d) g := by
      intro r
      funext q
      unfold ovr; split
      · rename_i hq
        exact st_ne fun e => hp (e ▸ hq)
      · rfl
    rw [e, e] at h1
    exact h1

theorem headD_mem {α : Type} {l : List α} {a : α} (h : l ≠ []) : l.headD a ∈ l := by
  cases l with
  | nil => exact absurd rfl h
  | cons x xs => simp
theorem mk_ev {p : Pl} {bs : List Tr} {f : Pl → Nat} {b : Tr} (h : bs[f p]? = some b) : ev (mk p bs) f = ev b f := by
  unfold mk; split
  · rename_i hall
    rw [← hall b (List.mem_of_getElem? h)]
  · exact ev_ask h
theorem ev_low {m : Nat → Nat} {F : (Pl → Nat) → Va} : ∀ {P : List Pl} {r g : Pl → Nat}, P.Nodup → Vd m P g → ev (low m P F r) g = F (ovr P r g)
  | [], r, g, _, _ => by rw [low, ovr_nil]; rfl
  | p :: P, r, g, hn, hg => by
    have hp : p ∉ P := (List.nodup_cons.mp hn).1
    have hlt : g p < m p.2 := hg p List.mem_cons_self
    rw [low, mk_ev (b := low m P F (st r p (g p))) (by simp [hlt]), ev_low (List.nodup_cons.mp hn).2 (fun q hq => hg q (List.mem_cons_of_mem _ hq)), ovr_cons hp]
theorem low_inj {m : Nat → Nat} {F G : (Pl → Nat) → Va} {P : List Pl} {r r' : Pl → Nat} (hn : P.Nodup) (h : low m P F r = low m P G r') : ∀ g, Vd m P g → F (ovr P r g) = G (ovr P r' g) := fun g hg => by
  rw [← ev_low (m := m) (F := F) hn hg, ← ev_low (m := m) (F := G) hn hg, h]

/-- a place on which the function does not hang -/
def Idle (m : Nat → Nat) (P : List Pl) (F : (Pl → Nat) → Va) (p : Pl) : Prop := ∀ f, Vd m P f → ∀ d, d < m p.2 → F (st f p d) = F (st f p 0)
theorem mk_all {p : Pl} {bs : List Tr} {t : Tr} (hne : bs ≠ []) (h : ∀ b ∈ bs, b = t) : mk p bs = t := by
  have e : bs.headD default = t := h _ (headD_mem hne)
  unfold mk
  rw [if_pos (by rw [e]; exact h), e]
theorem low_skip {m : Nat → Nat} {F : (Pl → Nat) → Va} {P : List Pl} : ∀ {A R : List Pl} {r : Pl → Nat}, (A ++ R).Nodup → (∀ p ∈ A ++ R, 0 < m p.2) → (∀ p ∈ A ++ R, p ∈ P) → Vd m P r → (∀ p ∈ A, Idle m P F p) → low m (A ++ R) F r = low m R F r
  | [], R, r, _, _, _, _, _ => rfl
  | a :: A, R, r, hn, hm, hP, hr, hi => by
    rw [List.cons_append] at hn hm hP ⊢
    have ha : a ∉ A ++ R := (List.nodup_cons.mp hn).1
    have hm0 : 0 < m a.2 := hm a List.mem_cons_self
    have haP : a ∈ P := hP a List.mem_cons_self
    have hn' := (List.nodup_cons.mp hn).2
    have hm' : ∀ p ∈ A ++ R, 0 < m p.2 := fun q hq => hm q (List.mem_cons_of_mem _ hq)
    have hP' : ∀ p ∈ A ++ R, p ∈ P := fun q hq => hP q (List.mem_cons_of_mem _ hq)
    rw [low]
    refine mk_all (by simp; omega) fun b hb => ?_
    obtain ⟨d, hd, rfl⟩ := List.mem_map.mp hb
    have hd' := List.mem_range.mp hd
    rw [low_skip hn' hm' hP' (hr.st hd') fun p hp => hi p (List.mem_cons_of_mem _ hp)]
    have haR : a ∉ R := fun h => ha (List.mem_append_right _ h)
    refine low_congr (List.nodup_append.mp hn').2.1 (fun q hq => hm' q (List.mem_append_right _ hq)) fun g hg => ?_
    rw [ovr_st haR]
    have hv : Vd m P (ovr R r g) := ovr_vd hg hr
    have h1 := hi a List.mem_cons_self _ hv d hd'
    have h2 := hi a List.mem_cons_self _ hv (r a) (hr a haP)
    rw [h1, ← h2]
    congr 1
    have e : r a = ovr R r g a := (ovr_out haR).symm
    rw [e, st_self]
theorem low_wf {m : Nat → Nat} {F : (Pl → Nat) → Va} : ∀ {P : List Pl} {r : Pl → Nat}, P.Nodup → (∀ p ∈ P, 0 < m p.2) → Wf m P (low m P F r)
  | [], r, _, _ => .fin
  | p :: P, r, hn, hm => by
    have hp : p ∉ P := (List.nodup_cons.mp hn).1
    rw [low]
    have hb : ∀ b ∈ ((List.range (m p.2)).map fun d => low m P F (st r p d)), Wf m P b := fun b hb => by
      obtain ⟨d, _, rfl⟩ := List.mem_map.mp hb
      exact low_wf (List.nodup_cons.mp hn).2 fun q hq => hm q (List.mem_cons_of_mem _ hq)
    unfold mk; split
    · have hne : ((List.range (m p.2)).map fun d => low m P F (st r p d)) ≠ [] := by
        have := hm p List.mem_cons_self
        simp; omega
      exact (hb _ (headD_mem hne)).mono fun q hq => List.mem_cons_of_mem _ hq
    · refine .ask List.mem_cons_self (by simp) fun b hb' => (hb b hb').mono fun q hq => ?_
      exact mem_rem.mpr ⟨List.mem_cons_of_mem _ hq, fun e => hp (e ▸ hq)⟩

/-! sizes -/
def prd (m : Nat → Nat) : List Pl → Nat
  | [] => 1
  | p :: P => m p.2 * prd m P
theorem prd_pos {m : Nat → Nat} : ∀ {P : List Pl}, (∀ p ∈ P, 0 < m p.2) → 0 < prd m P
  | [], _ => by simp [prd]
  | p :: P, h => by
    rw [prd]
    exact Nat.mul_pos (h p List.mem_cons_self) (prd_pos fun q hq => h q (List.mem_cons_of_mem _ hq))
theorem rem_out {P : List Pl} {p : Pl} (h : p ∉ P) : rem P p = P := by
  unfold rem
  refine List.filter_eq_self.mpr fun q hq => ?_
  simp; intro e; exact h (e ▸ hq)
theorem rem_cons_self {P : List Pl} {p : Pl} (h : p ∉ P) : rem (p :: P) p = P := by
  have : rem (p :: P) p = rem P p := by unfold rem; rw [List.filter_cons]; simp
  rw [this, rem_out h]
theorem rem_cons_ne {P : List Pl} {p q : Pl} (h : q ≠ p) : rem (q :: P) p = q :: rem P p := by
  unfold rem; rw [List.filter_cons]; simp [h]
theorem prd_rem {m : Nat → Nat} : ∀ {P : List Pl} {p : Pl}, P.Nodup → p ∈ P → prd m P = m p.2 * prd m (rem P p)
  | q :: P, p, hn, hp => by
    have hq : q ∉ P := (List.nodup_cons.mp hn).1
    by_cases e : q = p
    · subst e; rw [rem_cons_self hq, prd]
    · have hp' : p ∈ P := (List.mem_cons.mp hp).resolve_left (Ne.symm e)
      rw [rem_cons_ne e, prd, prd, prd_rem (List.nodup_cons.mp hn).2 hp']
      rw [Nat.mul_left_comm]
theorem Wf.nodes {m : Nat → Nat} {P : List Pl} {t : Tr} (h : Wf m P t) (hn : P.Nodup) (hm : ∀ p ∈ P, 2 ≤ m p.2) : nd t + 1 ≤ 2 * prd m P := by
  induction h with
  | fin =>
    have := prd_pos (m := m) fun p hp => Nat.lt_of_lt_of_le (by omega) (hm p hp)
    rw [nd]; omega
  | @ask P p bs hp hl _ ih =>
    have h1 : ∀ b ∈ bs, nd b ≤ 2 * prd m (rem P p) - 1 := fun b hb => by
      have := ih b hb (rem_nodup hn) fun q hq => hm q (mem_rem.mp hq).1
      omega
    have h2 := nds_le h1
    rw [hl] at h2
    have h3 := prd_rem (m := m) hn hp
    have h4 := hm p hp
    have h5 : 0 < prd m (rem P p) := prd_pos fun q hq => Nat.lt_of_lt_of_le (by omega) (hm q (mem_rem.mp hq).1)
    rw [nd, h3]
    have h6 : m p.2 * (2 * prd m (rem P p) - 1) = 2 * (m p.2 * prd m (rem P p)) - m p.2 := by
      rw [Nat.mul_sub, Nat.mul_one, Nat.mul_left_comm]
    have h7 : m p.2 ≤ m p.2 * prd m (rem P p) := Nat.le_mul_of_pos_right _ h5
    omega
end K16

/-! A tree given a digit; trees that grow; the least tree grows. -/
set_option autoImplicit false
set_option linter.unusedVariables false
namespace K16
open Classical

mutual
def fx (p : Pl) (d : Nat) : Tr → Tr
  | .fin v => .fin v
  | .ask q bs => if q = p then (fxs p d bs).getD d default else .ask q (fxs p d bs)
def fxs (p : Pl) (d : Nat) : List Tr → List Tr
  | [] => []
  | b :: bs => fx p d b :: fxs p d bs
end
theorem fxs_map (p : Pl) (d : Nat) : ∀ bs : List Tr, fxs p d bs = bs.map (fx p d)
  | [] => rfl
  | b :: bs => by rw [fxs, fxs_map p d bs]; rfl
theorem fx_at {p : Pl} {d : Nat} {bs : List Tr} {b : Tr} (h : bs[d]? = some b) : fx p d (.ask p bs) = fx p d b := by
  rw [fx, if_pos rfl, fxs_map]
  rw [List.getD_eq_getElem?_getD, List.getElem?_map, h]; rfl
theorem fx_ne {p q : Pl} {d : Nat} {bs : List Tr} (h : q ≠ p) : fx p d (.ask q bs) = .ask q (bs.map (fx p d)) := by
  rw [fx, if_neg h, fxs_map]

theorem Wf.fix {m : Nat → Nat} {P : List Pl} {t : Tr} (h : Wf m P t) {p : Pl} {d : Nat} (hd : d < m p.2) : Wf m (rem P p) (fx p d t) := by
  induction h with
  | fin => exact .fin
  | @ask P q bs hq hl hb ih =>
    by_cases e : q = p
    · subst e
      have hlt : d < bs.length := by rw [hl]; exact hd
      have e1 : bs[d]? = some bs[d] := List.getElem?_eq_getElem hlt
      rw [fx_at e1]
      exact (ih _ (List.getElem_mem hlt)).mono fun x hx => mem_rem.mpr ⟨(mem_rem.mp (mem_rem.mp hx).1).1, (mem_rem.mp hx).2⟩
    · rw [fx_ne e]
      refine .ask (mem_rem.mpr ⟨hq, e⟩) (by rw [List.length_map, hl]) fun b hb' => ?_
      obtain ⟨c, hc, rfl⟩ := List.mem_map.mp hb'
      exact (ih c hc).mono fun x hx => mem_rem.mpr ⟨mem_rem.mpr ⟨(mem_rem.mp (mem_rem.mp hx).1).1, (mem_rem.mp hx).2⟩, (mem_rem.mp (mem_rem.mp hx).1).2⟩
theorem Wf.ev_fix {m : Nat → Nat} {P : List Pl} {t : Tr} (h : Wf m P t) {p : Pl} {d : Nat} (hd : d < m p.2) {f : Pl → Nat} (hf : Vd m P f) : ev (fx p d t) f = ev t (st f p d) := by
  induction h with
  | fin => rfl
  | @ask P q bs hq hl hb ih =>
    have hf' : Vd m (rem P q) f := fun x hx => hf x (mem_rem.mp hx).1
    by_cases e : q = p
    · subst e
      have hlt : d < bs.length := by rw [hl]; exact hd
      have e1 : bs[d]? = some bs[d] := List.getElem?_eq_getElem hlt
      rw [fx_at e1, ih _ (List.getElem_mem hlt) hf', ev_ask (f := st f q d) (by rw [st_same]; exact e1)]
    · have hlt : f q < bs.length := by rw [hl]; exact hf q hq
      have e1 : bs[f q]? = some bs[f q] := List.getElem?_eq_getElem hlt
      rw [fx_ne e, ev_ask (b := fx p d bs[f q]) (by rw [List.getElem?_map, e1]; rfl), ih _ (List.getElem_mem hlt) hf', ev_ask (f := st f p d) (by rw [st_ne e]; exact e1)]

mutual
def sk (k : Pl → Option Nat) : Tr → Tr
  | .fin v => .fin v
  | .ask q bs => match k q with
    | none => .ask q bs
    | some d => (sks k bs).getD d default
def sks (k : Pl → Option Nat) : List Tr → List Tr
  | [] => []
  | b :: bs => sk k b :: sks k bs
end
theorem sks_map (k : Pl → Option Nat) : ∀ bs : List Tr, sks k bs = bs.map (sk k)
  | [] => rfl
  | b :: bs => by rw [sks, sks_map k bs]; rfl
theorem sk_none {k : Pl → Option Nat} {q : Pl} {bs : List Tr} (h : k q = none) : sk k (.ask q bs) = .ask q bs := by rw [sk, h]
theorem sk_some {k : Pl → Option Nat} {q : Pl} {bs : List Tr} {d : Nat} {b : Tr} (h : k q = some d) (hb : bs[d]? = some b) : sk k (.ask q bs) = sk k b := by
  rw [sk, h]
  show (sks k bs).getD d default = _
  rw [sks_map, List.getD_eq_getElem?_getD, List.getElem?_map, hb]; rfl
/-- one known answer -/
def one (p : Pl) (d : Nat) : Pl → Option Nat := fun q => if q = p then some d else none

inductive Gr (step : Tr → Tr) : Tr → Tr → Prop
  | fin {t : Tr} {v : Va} : step t = .fin v → Gr step t (.fin v)
  | ask {t : Tr} {p : Pl} {ss ts : List Tr} : step t = .ask p ss → ts.length = ss.length → (∀ (i : Nat) (s u : Tr), ss[i]? = some s → ts[i]? = some u → Gr step s u) → Gr step t (.ask p ts)
theorem Gr.of_step {step : Tr → Tr} {s t u : Tr} (h : Gr step s u) (e : step t = step s) : Gr step t u := by
  cases h with
  | fin h => exact .fin (e.trans h)
  | ask h hl hi => exact .ask (e.trans h) hl hi
theorem gr_fix {m : Nat → Nat} {P : List Pl} {t : Tr} (h : Wf m P t) {p : Pl} {d : Nat} (hd : d < m p.2) : Gr (sk (one p d)) t (fx p d t) := by
  induction h with
  | fin => exact .fin rfl
  | @ask P q bs hq hl hb ih =>
    by_cases e : q = p
    · subst e
      have hlt : d < bs.length := by rw [hl]; exact hd
      have e1 : bs[d]? = some bs[d] := List.getElem?_eq_getElem hlt
      rw [fx_at e1]
      exact (ih _ (List.getElem_mem hlt)).of_step (sk_some (by simp [one]) e1)
    · rw [fx_ne e]
      refine .ask (sk_none (by simp [one, e])) (by simp) fun i s u h1 h2 => ?_
      rw [List.getElem?_map, h1] at h2
      cases h2
      exact ih s (List.mem_of_getElem? h1)

/-! the least tree -/
noncomputable def first (m : Nat → Nat) (P : List Pl) (F : (Pl → Nat) → Va) : Option Pl := P.find? fun p => decide (¬ Idle m P F p)
def zero : Pl → Nat := fun _ => 0
noncomputable def stepL (m : Nat → Nat) (P : List Pl) (T : Tr) : Tr := match first m P (ev T) with
  | none => .fin (ev T zero)
  | some p => .ask p ((List.range (m p.2)).map fun d => fx p d T)
theorem zero_vd {m : Nat → Nat} {P : List Pl} (hm : ∀ p ∈ P, 0 < m p.2) : Vd m P zero := fun p hp => hm p hp
theorem idle_out {m : Nat → Nat} {P L : List Pl} {T : Tr} (h : Wf m L T) (hL : ∀ q ∈ L, q ∈ P) {p : Pl} (hp : p ∉ L) : Idle m P (ev T) p := fun f hf d hd => by
  refine h.congr (fun q hq => ?_) fun q hq => ?_
  · have : q ≠ p := fun e => hp (e ▸ hq)
    rw [st_ne this, st_ne this]
  · have : q ≠ p := fun e => hp (e ▸ hq)
    rw [st_ne this]; exact hf q (hL q hq)
theorem find_split {P : List Pl} {f : Pl → Bool} {p : Pl} (h : P.find? f = some p) : ∃ A R, P = A ++ p :: R ∧ f p = true ∧ ∀ q ∈ A, f q = false := by
  obtain ⟨h1, as, bs, h2, h3⟩ := List.find?_eq_some_iff_append.mp h
  exact ⟨as, bs, h2, h1, fun q hq => by simpa using h3 q hq⟩
theorem gr_low {m : Nat → Nat} {P : List Pl} (hn : P.Nodup) (hm : ∀ p ∈ P, 0 < m p.2) : ∀ (n : Nat) (L : List Pl) (T : Tr), L.length ≤ n → Wf m L T → (∀ q ∈ L, q ∈ P) → Gr (stepL m P) T (low m P (ev T) zero) := by
  intro n
  induction n with
  | zero =>
    intro L T hl hw hL
    have : L = [] := List.length_eq_zero_iff.mp (by omega)
    subst this
    cases hw with
    | fin =>
      rename_i v
      have hf : first m P (ev (.fin v)) = none := List.find?_eq_none.mpr fun p _ => by
        simp; exact idle_out (L := []) .fin (fun q hq => nomatch hq) (fun h => nomatch h)
      have e : low m P (ev (.fin v)) zero = .fin v := by
        have := low_skip (m := m) (F := ev (.fin v)) (P := P) (A := P) (R := []) (r := zero) (by simpa using hn) (by simpa using hm) (by simp) (zero_vd hm) fun p _ => idle_out (L := []) .fin (fun q hq => nomatch hq) (fun h => nomatch h)
        rw [List.append_nil] at this
        rw [this]; rfl
      rw [e]
      exact .fin (by unfold stepL; rw [hf]; rfl)
    | ask hp => exact nomatch hp
  | succ n ih =>
    intro L T hl hw hL
    cases hf : first m P (ev T) with
    | none =>
      have hi : ∀ p ∈ P, Idle m P (ev T) p := fun p hp => by
        have := List.find?_eq_none.mp hf p hp
        simpa using this
      have e : low m P (ev T) zero = .fin (ev T zero) := by
        have := low_skip (m := m) (F := ev T) (P := P) (A := P) (R := []) (r := zero) (by simpa using hn) (by simpa using hm) (by simp) (zero_vd hm) hi
        rw [List.append_nil] at this
        rw [this]; rfl
      rw [e]
      exact .fin (by unfold stepL; rw [hf])
    | some p =>
      obtain ⟨A, R, hPe, hnp, hA⟩ := find_split hf
      have hnid : ¬ Idle m P (ev T) p := by simpa using hnp
      have hAid : ∀ q ∈ A, Idle m P (ev T) q := fun q hq => by simpa using hA q hq
      have hpL : p ∈ L := by
        refine Classical.byContradiction fun h => hnid ?_
        exact idle_out hw hL h
      have hpP : p ∈ P := hL p hpL
      have hn2 : (A ++ p :: R).Nodup := hPe ▸ hn
      have hm2 : ∀ q ∈ A ++ p :: R, 0 < m q.2 := fun q hq => hm q (hPe ▸ hq)
      have hP2 : ∀ q ∈ A ++ p :: R, q ∈ P := fun q hq => hPe ▸ hq
      have hz := zero_vd hm
      have hnR : (p :: R).Nodup := (List.nodup_append.mp hn2).2.1
      have hpR : p ∉ R := (List.nodup_cons.mp hnR).1
      -- each side's least tree
      have side : ∀ d, d < m p.2 → low m P (ev (fx p d T)) zero = low m R (ev T) (st zero p d) := fun d hd => by
        have hw' := hw.fix (p := p) hd
        have hL' : ∀ q ∈ rem L p, q ∈ P := fun q hq => hL q (mem_rem.mp hq).1
        have evd : ∀ f, Vd m P f → ev (fx p d T) f = ev T (st f p d) := fun f hf => hw.ev_fix hd fun q hq => hf q (hL q hq)
        have hid : ∀ q ∈ A ++ [p], Idle m P (ev (fx p d T)) q := fun q hq => by
          rcases List.mem_append.mp hq with hq | hq
          · intro f hf' e he
            have hqp : q ≠ p := fun e => hnid (e ▸ hAid q hq)
            have hqP : q ∈ P := hP2 q (List.mem_append_left _ hq)
            rw [evd _ (hf'.st he), evd _ (hf'.st (hm q hqP)), st_comm f _ _ hqp, st_comm f _ _ hqp]
            exact hAid q hq _ (hf'.st hd) e he
          · have : q = p := by simpa using hq
            subst this
            exact idle_out hw' hL' fun h => (mem_rem.mp h).2 rfl
        have hn3 : ((A ++ [p]) ++ R).Nodup := by simpa using hn2
        have h1 := low_skip (m := m) (F := ev (fx p d T)) (P := P) (A := A ++ [p]) (R := R) (r := zero) hn3 (fun q hq => hm2 q (by simpa using hq)) (fun q hq => hP2 q (by simpa using hq)) hz hid
        have h2 : (A ++ [p]) ++ R = P := by rw [hPe]; simp
        rw [h2] at h1
        rw [h1]
        refine low_congr (List.nodup_cons.mp hnR).2 (fun q hq => hm2 q (by simp [hq])) fun g hg => ?_
        rw [evd _ (ovr_vd hg hz), ovr_st hpR]
      have e : low m P (ev T) zero = .ask p ((List.range (m p.2)).map fun d => low m R (ev T) (st zero p d)) := by
        have h1 := low_skip (m := m) (F := ev T) (P := P) (A := A) (R := p :: R) (r := zero) hn2 hm2 hP2 hz hAid
        rw [hPe]
        rw [← hPe] at h1
        rw [← hPe, h1, low]
        unfold mk
        rw [if_neg]
        intro hall
        apply hnid
        have h0 : ∀ d, d < m p.2 → low m R (ev T) (st zero p d) = low m R (ev T) (st zero p 0) := fun d hd => by
          have hh : ((List.range (m p.2)).map fun d => low m R (ev T) (st zero p d)).headD default = low m R (ev T) (st zero p 0) := by
            cases hmp : m p.2 with
            | zero => rw [hmp] at hd; omega
            | succ k => rw [List.range_succ_eq_map]; rfl
          rw [← hh]
          exact hall _ (List.mem_map.mpr ⟨d, List.mem_range.mpr hd, rfl⟩)
        -- then p is idle
        intro f hf' d hd
        have hRn := (List.nodup_cons.mp hnR).2
        have hRv : Vd m R f := fun q hq => hf' q (hP2 q (by simp [hq]))
        -- the values behind A by any digits: A is idle, so take zero there
        have key : ∀ f, Vd m P f → ∀ d, d < m p.2 → ev T (st f p d) = ev T (ovr R (st zero p d) f) := fun f hf d hd => by
          have h3 := low_skip (m := m) (F := ev T) (P := P) (A := A) (R := p :: R) (r := zero) hn2 hm2 hP2 hz hAid
          have h4 := ev_low (m := m) (F := ev T) (P := A ++ p :: R) (r := zero) (g := st f p d) hn2 fun q hq => (hf.st hd) q (hP2 q hq)
          have h5 := ev_low (m := m) (F := ev T) (P := p :: R) (r := zero) (g := st f p d) hnR fun q hq => (hf.st hd) q (hP2 q (List.mem_append_right _ hq))
          rw [h3, h5] at h4
          have h6 : ev T (ovr (A ++ p :: R) zero (st f p d)) = ev T (st f p d) := by
            refine hw.congr (fun q hq => ovr_all (by rw [← hPe]; exact hL q hq)) fun q hq => ?_
            rw [ovr_all (by rw [← hPe]; exact hL q hq)]
            exact (hf.st hd) q (hL q hq)
          rw [h6] at h4
          rw [← h4, ovr_cons hpR, st_same]
          congr 1
          funext q
          unfold ovr
          split
          · rename_i hq
            exact st_ne fun e => hpR (e ▸ hq)
          · rfl
        rw [key f hf' d hd, key f hf' 0 (hm p hpP), ← ev_low (m := m) (F := ev T) hRn hRv, ← ev_low (m := m) (F := ev T) hRn hRv, h0 d hd]
      rw [e]
      refine .ask (ss := (List.range (m p.2)).map fun d => fx p d T) (by unfold stepL; rw [hf]) (by simp) fun i s u h1 h2 => ?_
      rw [List.getElem?_map] at h1 h2
      cases hi : (List.range (m p.2))[i]? with
      | none => rw [hi] at h1; cases h1
      | some d =>
        rw [hi] at h1 h2
        cases h1; cases h2
        have hd : d < m p.2 := List.mem_range.mp (List.mem_of_getElem? hi)
        show Gr (stepL m P) (fx p d T) (low m R (ev T) (st zero p d))
        rw [← side d hd]
        refine ih (rem L p) _ ?_ (hw.fix hd) fun q hq => hL q (mem_rem.mp hq).1
        have := rem_length hpL
        omega
end K16

/-! Shared forms: the parts of a tree, each once; read back. -/
set_option autoImplicit false
set_option linter.unusedVariables false
namespace K16
open Classical

inductive Nd where
  | fin (v : Va)
  | ask (p : Pl) (ks : List Nat)
  deriving DecidableEq

def ins (x : Nd) (ns : List Nd) : Nat × List Nd := if x ∈ ns then (ns.idxOf x, ns) else (ns.length, ns ++ [x])
mutual
def sh : Tr → List Nd → Nat × List Nd
  | .fin v, ns => ins (.fin v) ns
  | .ask p bs, ns => ins (.ask p (shs bs ns).1) (shs bs ns).2
def shs : List Tr → List Nd → List Nat × List Nd
  | [], ns => ([], ns)
  | b :: bs, ns => ((sh b ns).1 :: (shs bs (sh b ns).2).1, (shs bs (sh b ns).2).2)
end
def dc1 (made : List Tr) : Nd → Tr
  | .fin v => .fin v
  | .ask p ks => .ask p (ks.map fun k => made.getD k default)
def dec (ns : List Nd) : List Tr := ns.foldl (fun made x => made ++ [dc1 made x]) []
theorem dec_nil : dec [] = [] := rfl
theorem dec_snoc (ns : List Nd) (x : Nd) : dec (ns ++ [x]) = dec ns ++ [dc1 (dec ns) x] := by
  unfold dec; rw [List.foldl_append]; rfl
theorem snoc_ind {α : Type} {P : List α → Prop} (h0 : P []) (h1 : ∀ l a, P l → P (l ++ [a])) (l : List α) : P l := by
  have : ∀ n (l : List α), l.length = n → P l := by
    intro n
    induction n with
    | zero => intro l h; rw [List.length_eq_zero_iff.mp h]; exact h0
    | succ n ih =>
      intro l h
      have hne : l ≠ [] := by intro e; rw [e] at h; cases h
      rw [← List.dropLast_concat_getLast hne]
      exact h1 _ _ (ih _ (by rw [List.length_dropLast]; omega))
  exact this _ l rfl
theorem dec_length (ns : List Nd) : (dec ns).length = ns.length := by
  induction ns using snoc_ind with
  | h0 => rfl
  | h1 l a ih => rw [dec_snoc, List.length_append, List.length_append, ih]; rfl
theorem dec_append (ns more : List Nd) : ∃ ts, dec (ns ++ more) = dec ns ++ ts := by
  induction more using snoc_ind with
  | h0 => exact ⟨[], by simp⟩
  | h1 l a ih =>
    obtain ⟨ts, e⟩ := ih
    exact ⟨ts ++ [dc1 (dec (ns ++ l)) a], by rw [← List.append_assoc, dec_snoc, e, List.append_assoc]⟩
theorem dec_get {ns more : List Nd} {j : Nat} {t : Tr} (h : (dec ns)[j]? = some t) : (dec (ns ++ more))[j]? = some t := by
  obtain ⟨ts, e⟩ := dec_append ns more
  rw [e, List.getElem?_append_left (List.getElem?_eq_some_iff.mp h).1]
  exact h

inductive Sub : Tr → Tr → Prop
  | refl {t : Tr} : Sub t t
  | child {p : Pl} {bs : List Tr} {b s : Tr} : b ∈ bs → Sub b s → Sub (.ask p bs) s
theorem Sub.nd_le {t s : Tr} (h : Sub t s) : nd s ≤ nd t := by
  induction h with
  | refl => exact Nat.le_refl _
  | @child p bs b s hb _ ih =>
    have := nd_lt (p := p) hb
    omega
theorem sub_fin {v : Va} {s : Tr} : Sub (.fin v) s ↔ s = .fin v := by
  constructor
  · intro h; cases h; rfl
  · intro h; subst h; exact .refl
theorem sub_ask {p : Pl} {bs : List Tr} {s : Tr} : Sub (.ask p bs) s ↔ s = .ask p bs ∨ ∃ b ∈ bs, Sub b s := by
  constructor
  · intro h
    cases h with
    | refl => exact .inl rfl
    | child hb h => exact .inr ⟨_, hb, h⟩
  · rintro (h | ⟨b, hb, h⟩)
    · subst h; exact .refl
    · exact .child hb h

structure Ok (ns : List Nd) : Prop where
  nodup : ns.Nodup
  trees : (dec ns).Nodup
  below : ∀ (j : Nat) (p : Pl) (ks : List Nat), ns[j]? = some (.ask p ks) → ∀ k ∈ ks, k < j
theorem Ok.nil : Ok [] := ⟨List.nodup_nil, List.nodup_nil, fun j p ks h => by simp at h⟩
theorem getD_of {l : List Tr} {k : Nat} {t : Tr} (h : l[k]? = some t) : l.getD k default = t := by
  rw [List.getD_eq_getElem?_getD, h]; rfl
/-- the tree at a place is what its node says -/
theorem dec_at {ns : List Nd} (hb : ∀ (j : Nat) (p : Pl) (ks : List Nat), ns[j]? = some (.ask p ks) → ∀ k ∈ ks, k < j) {j : Nat} {x : Nd} (h : ns[j]? = some x) : (dec ns)[j]? = some (dc1 (dec ns) x) := by
  induction ns using snoc_ind with
  | h0 => simp at h
  | h1 l a ih =>
    have hb' : ∀ (j : Nat) (p : Pl) (ks : List Nat), l[j]? = some (.ask p ks) → ∀ k ∈ ks, k < j := fun j p ks hj => hb j p ks (by
      rw [List.getElem?_append_left (List.getElem?_eq_some_iff.mp hj).1]; exact hj)
    have step : ∀ (y : Nd) (i : Nat), i ≤ l.length → (∀ (p : Pl) (ks : List Nat), y = .ask p ks → ∀ k ∈ ks, k < i) → dc1 (dec (l ++ [a])) y = dc1 (dec l) y := by
      intro y i hi hk
      cases y with
      | fin v => rfl
      | ask p ks =>
        show Tr.ask p _ = Tr.ask p _
        congr 1
        refine List.map_congr_left fun k hk' => ?_
        have hlt : k < (dec l).length := by rw [dec_length]; have := hk p ks rfl k hk'; omega
        have e1 := List.getElem?_eq_getElem hlt
        rw [getD_of e1, getD_of (dec_get (more := [a]) e1)]
    rcases Nat.lt_or_ge j l.length with hj | hj
    · rw [List.getElem?_append_left hj] at h
      have h1 := ih hb' h
      rw [dec_get (more := [a]) h1, step x j (by omega)]
      intro p ks e k hk
      subst e
      exact hb' j p ks h k hk
    · have hjl : j = l.length := by
        have := (List.getElem?_eq_some_iff.mp h).1
        rw [List.length_append] at this; simp at this; omega
      subst hjl
      have hx : a = x := by simpa using h
      subst hx
      rw [step a l.length (Nat.le_refl _) fun p ks e k hk => ?_, dec_snoc, List.getElem?_append_right (by rw [dec_length]; exact Nat.le_refl _), dec_length, Nat.sub_self]
      · rfl
      · subst e
        exact hb l.length p ks h k hk
theorem nodup_snoc {α : Type} {l : List α} {a : α} (hl : l.Nodup) (ha : a ∉ l) : (l ++ [a]).Nodup := by
  rw [List.nodup_append]
  refine ⟨hl, by simp, fun x hx y hy => ?_⟩
  have : y = a := by simpa using hy
  subst this
  intro e; subst e; exact ha hx
theorem nodup_at {α : Type} {l : List α} (h : l.Nodup) {i j : Nat} {a : α} (hi : l[i]? = some a) (hj : l[j]? = some a) : i = j := by
  obtain ⟨h1, e1⟩ := List.getElem?_eq_some_iff.mp hi
  obtain ⟨h2, e2⟩ := List.getElem?_eq_some_iff.mp hj
  exact (List.getElem_inj h).mp (e1.trans e2.symm)
theorem map_idx {l : List Tr} (hn : l.Nodup) : ∀ {ks ks' : List Nat}, (∀ k ∈ ks, k < l.length) → (∀ k ∈ ks', k < l.length) → ks.map (fun k => l.getD k default) = ks'.map (fun k => l.getD k default) → ks = ks'
  | [], [], _, _, _ => rfl
  | [], _ :: _, _, _, h => by simp at h
  | _ :: _, [], _, _, h => by simp at h
  | k :: ks, k' :: ks', h1, h2, h => by
    rw [List.map_cons, List.map_cons] at h
    injection h with e1 e2
    have l1 := List.getElem?_eq_getElem (h1 k List.mem_cons_self)
    have l2 := List.getElem?_eq_getElem (h2 k' List.mem_cons_self)
    rw [getD_of l1, getD_of l2] at e1
    rw [nodup_at hn l1 (by rw [e1]; exact l2), map_idx hn (fun x hx => h1 x (List.mem_cons_of_mem _ hx)) (fun x hx => h2 x (List.mem_cons_of_mem _ hx)) e2]
/-- a node put in -/
theorem ins_ok {ns : List Nd} (ok : Ok ns) {x : Nd} (hk : ∀ (p : Pl) (ks : List Nat), x = .ask p ks → ∀ k ∈ ks, k < ns.length) :
    Ok (ins x ns).2 ∧ (∃ more, (ins x ns).2 = ns ++ more) ∧ (dec (ins x ns).2)[(ins x ns).1]? = some (dc1 (dec ns) x) ∧ (∀ s, s ∈ dec (ins x ns).2 ↔ s ∈ dec ns ∨ s = dc1 (dec ns) x) ∧ (x ∉ ns → dc1 (dec ns) x ∉ dec ns) := by
  have hnew : x ∉ ns → dc1 (dec ns) x ∉ dec ns := fun hx hd => by
    obtain ⟨j, hj, e⟩ := List.mem_iff_getElem.mp hd
    have hj' : j < ns.length := by rw [dec_length] at hj; exact hj
    have ej : (dec ns)[j]? = some (dc1 (dec ns) x) := by rw [List.getElem?_eq_getElem hj, e]
    have en : ns[j]? = some ns[j] := List.getElem?_eq_getElem hj'
    have e2 := dec_at ok.below en
    rw [ej] at e2
    have e3 := Option.some.inj e2
    apply hx
    have : x = ns[j] := by
      cases hx' : x with
      | fin v =>
        rw [hx'] at e3
        cases hy : ns[j] with
        | fin u => rw [hy] at e3; cases e3; rfl
        | ask q ls => rw [hy] at e3; cases e3
      | ask p ks =>
        rw [hx'] at e3
        cases hy : ns[j] with
        | fin u => rw [hy] at e3; cases e3
        | ask q ls =>
          rw [hy] at e3
          injection e3 with e4 e5
          subst e4
          have := map_idx ok.trees (fun k hk' => by rw [dec_length]; exact hk p ks hx' k hk') (fun k hk' => by
            rw [dec_length]
            have := ok.below j p ls (by rw [en, hy]) k hk'
            omega) e5
          rw [this]
    rw [this]
    exact List.getElem_mem hj'
  unfold ins
  split
  · rename_i hx
    have hlt := List.idxOf_lt_length_iff.mpr hx
    have e1 : ns[ns.idxOf x]? = some x := by rw [List.getElem?_eq_getElem hlt, List.getElem_idxOf hlt]
    have e2 := dec_at ok.below e1
    refine ⟨ok, ⟨[], by simp⟩, e2, fun s => ⟨.inl, fun h => h.elim id fun e => ?_⟩, hnew⟩
    subst e
    exact List.mem_of_getElem? e2
  · rename_i hx
    refine ⟨⟨nodup_snoc ok.nodup hx, ?_, ?_⟩, ⟨[x], rfl⟩, ?_, ?_, hnew⟩
    · rw [dec_snoc]; exact nodup_snoc ok.trees (hnew hx)
    · intro j p ks h k hk'
      rcases Nat.lt_or_ge j ns.length with hj | hj
      · rw [List.getElem?_append_left hj] at h
        exact ok.below j p ks h k hk'
      · have hjl : j = ns.length := by
          have := (List.getElem?_eq_some_iff.mp h).1
          rw [List.length_append] at this; simp at this; omega
        subst hjl
        have : x = .ask p ks := by simpa using h
        exact hk p ks this k hk'
    · show (dec (ns ++ [x]))[ns.length]? = _
      rw [dec_snoc, List.getElem?_append_right (by rw [dec_length]; exact Nat.le_refl _), dec_length, Nat.sub_self]; rfl
    · intro s
      show s ∈ dec (ns ++ [x]) ↔ _
      rw [dec_snoc]; simp
/-- what the parts of one tree (of some) bring -/
def Good (ns ns' : List Nd) (S : Tr → Prop) : Prop := Ok ns' ∧ (∃ more, ns' = ns ++ more) ∧ ∀ s, s ∈ dec ns' ↔ s ∈ dec ns ∨ S s
theorem sh_good (t : Tr) : ∀ ns, Ok ns → Good ns (sh t ns).2 (Sub t) ∧ (dec (sh t ns).2)[(sh t ns).1]? = some t := by
  induction t using Tr.ind with
  | h1 v =>
    intro ns ok
    obtain ⟨a, b, c, d, _⟩ := ins_ok ok (x := .fin v) (fun p ks e => nomatch e)
    rw [sh]
    exact ⟨⟨a, b, fun s => by rw [d, sub_fin]; rfl⟩, c⟩
  | h2 p bs ih =>
    have all : ∀ (bs : List Tr), (∀ b ∈ bs, ∀ ns, Ok ns → Good ns (sh b ns).2 (Sub b) ∧ (dec (sh b ns).2)[(sh b ns).1]? = some b) → ∀ ns, Ok ns →
        Good ns (shs bs ns).2 (fun s => ∃ b ∈ bs, Sub b s) ∧ (shs bs ns).1.map (fun k => (dec (shs bs ns).2).getD k default) = bs ∧ ∀ k ∈ (shs bs ns).1, k < (shs bs ns).2.length := by
      intro bs
      induction bs with
      | nil =>
        intro _ ns ok
        rw [shs]
        exact ⟨⟨ok, ⟨[], by simp⟩, fun s => by simp⟩, rfl, fun k hk => nomatch hk⟩
      | cons b bs ihb =>
        intro h ns ok
        obtain ⟨⟨a1, ⟨m1, a2⟩, a3⟩, a4⟩ := h b List.mem_cons_self ns ok
        obtain ⟨⟨b1, ⟨m2, b2⟩, b3⟩, b4, b5⟩ := ihb (fun c hc => h c (List.mem_cons_of_mem _ hc)) (sh b ns).2 a1
        rw [shs]
        refine ⟨⟨b1, ⟨m1 ++ m2, by rw [← List.append_assoc, ← a2]; exact b2⟩, fun s => ?_⟩, ?_, ?_⟩
        · rw [b3, a3]
          simp only [List.mem_cons, exists_eq_or_imp]
          constructor
          · rintro ((h | h) | h)
            · exact .inl h
            · exact .inr (.inl h)
            · exact .inr (.inr h)
          · rintro (h | h | h)
            · exact .inl (.inl h)
            · exact .inl (.inr h)
            · exact .inr h
        · rw [List.map_cons, b4]
          congr 1
          rw [b2]
          exact getD_of (dec_get a4)
        · intro k hk
          rcases List.mem_cons.mp hk with e | hk
          · subst e
            have := (List.getElem?_eq_some_iff.mp a4).1
            rw [dec_length] at this
            rw [b2, List.length_append]; omega
          · exact b5 k hk
    intro ns ok
    obtain ⟨⟨b1, ⟨m2, b2⟩, b3⟩, b4, b5⟩ := all bs ih ns ok
    obtain ⟨c1, ⟨m3, c2⟩, c3, c4, _⟩ := ins_ok b1 (x := .ask p (shs bs ns).1) (fun q ks e k hk => by cases e; exact b5 k hk)
    have et : dc1 (dec (shs bs ns).2) (.ask p (shs bs ns).1) = .ask p bs := by
      show Tr.ask p _ = _
      rw [b4]
    rw [et] at c3 c4
    rw [sh]
    refine ⟨⟨c1, ⟨m2 ++ m3, by rw [c2, b2, List.append_assoc]⟩, fun s => ?_⟩, c3⟩
    rw [c4, b3, sub_ask]
    constructor
    · rintro ((h | h) | h)
      · exact .inl h
      · exact .inr (.inr h)
      · exact .inr (.inl h)
    · rintro (h | h | h)
      · exact .inl (.inl h)
      · exact .inr h
      · exact .inl (.inr h)
theorem shs_good (bs : List Tr) : ∀ ns, Ok ns → Good ns (shs bs ns).2 (fun s => ∃ b ∈ bs, Sub b s) ∧ (shs bs ns).1.map (fun k => (dec (shs bs ns).2).getD k default) = bs := by
  induction bs with
  | nil =>
    intro ns ok
    rw [shs]
    exact ⟨⟨ok, ⟨[], by simp⟩, fun s => by simp⟩, rfl⟩
  | cons b bs ihb =>
    intro ns ok
    obtain ⟨⟨a1, ⟨m1, a2⟩, a3⟩, a4⟩ := sh_good b ns ok
    obtain ⟨⟨b1, ⟨m2, b2⟩, b3⟩, b4⟩ := ihb (sh b ns).2 a1
    rw [shs]
    refine ⟨⟨b1, ⟨m1 ++ m2, by rw [← List.append_assoc, ← a2]; exact b2⟩, fun s => ?_⟩, ?_⟩
    · rw [b3, a3]
      simp only [List.mem_cons, exists_eq_or_imp]
      constructor
      · rintro ((h | h) | h)
        · exact .inl h
        · exact .inr (.inl h)
        · exact .inr (.inr h)
      · rintro (h | h | h)
        · exact .inl (.inl h)
        · exact .inl (.inr h)
        · exact .inr h
    · rw [List.map_cons, b4]
      congr 1
      rw [b2]
      exact getD_of (dec_get a4)
/-- the shared form of a tree -/
def form (t : Tr) : List Nd := (sh t []).2
theorem form_ok (t : Tr) : Ok (form t) := (sh_good t [] .nil).1.1
theorem form_mem (t s : Tr) : s ∈ dec (form t) ↔ Sub t s := by
  have := (sh_good t [] .nil).1.2.2 s
  rw [dec_nil] at this
  simpa [form] using this
/-- read back, the last one is the tree -/
theorem form_last (t : Tr) : ∃ ts, dec (form t) = ts ++ [t] := by
  cases t with
  | fin v => exact ⟨[], rfl⟩
  | ask p bs =>
    obtain ⟨⟨b1, _, b3⟩, b4⟩ := shs_good bs [] .nil
    have et : dc1 (dec (shs bs []).2) (.ask p (shs bs []).1) = .ask p bs := by
      show Tr.ask p _ = _
      rw [b4]
    have hno : Nd.ask p (shs bs []).1 ∉ (shs bs []).2 := by
      intro hx
      obtain ⟨j, hj, e⟩ := List.mem_iff_getElem.mp hx
      have e2 := dec_at b1.below (show (shs bs []).2[j]? = some (Nd.ask p (shs bs []).1) by rw [List.getElem?_eq_getElem hj, e])
      rw [et] at e2
      rcases (b3 _).mp (List.mem_of_getElem? e2) with h | ⟨b, hb, h⟩
      · exact nomatch h
      · have h1 := h.nd_le
        have h2 := nd_lt (p := p) hb
        omega
    refine ⟨dec (shs bs []).2, ?_⟩
    unfold form
    rw [sh, ins, if_neg hno]
    show dec ((shs bs []).2 ++ [_]) = _
    rw [dec_snoc, et]
theorem ins_len (x : Nd) (ns : List Nd) : (ins x ns).2.length ≤ ns.length + 1 := by
  unfold ins; split
  · exact Nat.le_succ _
  · rw [List.length_append]; exact Nat.le_refl _
theorem sh_len (t : Tr) : ∀ ns, (sh t ns).2.length ≤ ns.length + nd t := by
  induction t using Tr.ind with
  | h1 v => intro ns; rw [sh, nd]; exact ins_len _ _
  | h2 p bs ih =>
    have all : ∀ (bs : List Tr), (∀ b ∈ bs, ∀ ns, (sh b ns).2.length ≤ ns.length + nd b) → ∀ ns, (shs bs ns).2.length ≤ ns.length + nds bs := by
      intro bs
      induction bs with
      | nil => intro _ ns; rw [shs, nds]; exact Nat.le_refl _
      | cons b bs ihb =>
        intro h ns
        have h1 := h b List.mem_cons_self ns
        have h2 := ihb (fun c hc => h c (List.mem_cons_of_mem _ hc)) (sh b ns).2
        rw [shs, nds]
        show (shs bs (sh b ns).2).2.length ≤ _
        omega
    intro ns
    rw [sh, nd]
    have h1 := all bs ih ns
    have h2 := ins_len (.ask p (shs bs ns).1) (shs bs ns).2
    omega
theorem shs_klen : ∀ (bs : List Tr) (ns : List Nd), (shs bs ns).1.length = bs.length
  | [], _ => rfl
  | b :: bs, ns => by rw [shs, List.length_cons, List.length_cons, shs_klen bs]
end K16

/-! The functions that are left behind known entries, counted: as many as the parts of the least tree. -/
set_option autoImplicit false
set_option linter.unusedVariables false
namespace K16
open Classical

/-! all fillings, the least first -/
def fil (m : Nat → Nat) : List Pl → (Pl → Nat) → List (Pl → Nat)
  | [], r => [r]
  | p :: P, r => (List.range (m p.2)).flatMap fun d => fil m P (st r p d)
theorem fil_mem {m : Nat → Nat} : ∀ {P : List Pl} {r f : Pl → Nat}, P.Nodup → (f ∈ fil m P r ↔ ∃ g, Vd m P g ∧ f = ovr P r g)
  | [], r, f, _ => by
    rw [fil, List.mem_singleton]
    exact ⟨fun h => ⟨fun _ => 0, (fun _ h => nomatch h), by rw [h, ovr_nil]⟩, fun ⟨g, _, h⟩ => by rw [h, ovr_nil]⟩
  | p :: P, r, f, hn => by
    have hp : p ∉ P := (List.nodup_cons.mp hn).1
    rw [fil, List.mem_flatMap]
    constructor
    · rintro ⟨d, hd, h⟩
      obtain ⟨g, hg, rfl⟩ := (fil_mem (List.nodup_cons.mp hn).2).mp h
      refine ⟨st g p d, fun q hq => ?_, ?_⟩
      · unfold st; split
        · rename_i e; rw [e]; exact List.mem_range.mp hd
        · rename_i e; exact hg q ((List.mem_cons.mp hq).resolve_left e)
      · rw [ovr_cons hp, st_same]
        funext q
        unfold ovr; split
        · rename_i hq; exact (st_ne (show q ≠ p from fun e => hp (e ▸ hq))).symm
        · rfl
    · rintro ⟨g, hg, rfl⟩
      exact ⟨g p, List.mem_range.mpr (hg p List.mem_cons_self), (fil_mem (List.nodup_cons.mp hn).2).mpr ⟨g, fun q hq => hg q (List.mem_cons_of_mem _ hq), ovr_cons hp r g⟩⟩
theorem fil_map {m : Nat → Nat} : ∀ {P : List Pl} {r : Pl → Nat}, P.Nodup → fil m P r = (fil m P zero).map (ovr P r)
  | [], r, _ => by rw [fil, fil, List.map_singleton, ovr_nil]
  | p :: P, r, hn => by
    have hp : p ∉ P := (List.nodup_cons.mp hn).1
    rw [fil, fil, List.map_flatMap]
    congr 1
    funext d
    rw [fil_map (r := st r p d) (List.nodup_cons.mp hn).2, fil_map (r := st zero p d) (List.nodup_cons.mp hn).2, List.map_map]
    refine List.map_congr_left fun g _ => ?_
    show _ = ovr (p :: P) r (ovr P (st zero p d) g)
    rw [ovr_cons hp]
    have : ovr P (st zero p d) g p = d := by rw [ovr_out hp, st_same]
    rw [this]
    funext q
    unfold ovr
    by_cases hq : q ∈ P
    · rw [if_pos hq, if_pos hq, if_pos hq]
    · rw [if_neg hq, if_neg hq]
theorem fil_length {m : Nat → Nat} : ∀ (P : List Pl) (r : Pl → Nat), (fil m P r).length = prd m P
  | [], r => rfl
  | p :: P, r => by
    rw [fil, List.length_flatMap, prd]
    have : (List.range (m p.2)).map (fun d => (fil m P (st r p d)).length) = (List.range (m p.2)).map fun _ => prd m P := List.map_congr_left fun d _ => fil_length P _
    rw [this, List.map_const', List.length_range, List.sum_replicate_nat]
theorem vals_eq {m : Nat → Nat} {P : List Pl} {F G : (Pl → Nat) → Va} {r r' : Pl → Nat} (hn : P.Nodup) : (fil m P r).map F = (fil m P r').map G ↔ ∀ g, Vd m P g → F (ovr P r g) = G (ovr P r' g) := by
  rw [fil_map (r := r) hn, fil_map (r := r') hn, List.map_map, List.map_map, List.map_inj_left]
  constructor
  · intro h g hg
    have h1 := h (ovr P zero g) ((fil_mem hn).mpr ⟨g, hg, rfl⟩)
    have e : ∀ r : Pl → Nat, ovr P r (ovr P zero g) = ovr P r g := fun r => by
      funext q; unfold ovr
      by_cases hq : q ∈ P
      · rw [if_pos hq, if_pos hq, if_pos hq]
      · rw [if_neg hq, if_neg hq]
    have h2 : F (ovr P r (ovr P zero g)) = G (ovr P r' (ovr P zero g)) := h1
    rw [e, e] at h2
    exact h2
  · intro h g hg
    obtain ⟨g', hg', rfl⟩ := (fil_mem hn).mp hg
    exact h _ (ovr_vdP hg')
theorem low_vals {m : Nat → Nat} {P : List Pl} {F G : (Pl → Nat) → Va} {r r' : Pl → Nat} (hn : P.Nodup) (hm : ∀ p ∈ P, 0 < m p.2) : low m P F r = low m P G r' ↔ (fil m P r).map F = (fil m P r').map G := by
  rw [vals_eq hn]
  exact ⟨low_inj hn, low_congr hn hm⟩

/-! hanging on the next place -/
def Hangs (m : Nat → Nat) (P : List Pl) (F : (Pl → Nat) → Va) (r : Pl → Nat) : Prop := match P with
  | [] => True
  | p :: P => ¬ ∀ d, d < m p.2 → (fil m P (st r p d)).map F = (fil m P (st r p 0)).map F
theorem head_range {α : Type} {n : Nat} (h : 0 < n) (f : Nat → α) (a : α) : ((List.range n).map f).headD a = f 0 := by
  cases n with
  | zero => omega
  | succ k => rw [List.range_succ_eq_map]; rfl
theorem mk_cond {m : Nat → Nat} {p : Pl} {P : List Pl} {F : (Pl → Nat) → Va} {r : Pl → Nat} (hn : (p :: P).Nodup) (hm : ∀ q ∈ p :: P, 0 < m q.2) :
    (∀ b ∈ (List.range (m p.2)).map (fun d => low m P F (st r p d)), b = ((List.range (m p.2)).map fun d => low m P F (st r p d)).headD default) ↔ ¬ Hangs m (p :: P) F r := by
  have hn' := (List.nodup_cons.mp hn).2
  have hm' : ∀ q ∈ P, 0 < m q.2 := fun q hq => hm q (List.mem_cons_of_mem _ hq)
  rw [head_range (hm p List.mem_cons_self)]
  show _ ↔ ¬ ¬ _
  rw [Classical.not_not]
  constructor
  · intro h d hd
    exact (low_vals hn' hm').mp (h _ (List.mem_map.mpr ⟨d, List.mem_range.mpr hd, rfl⟩))
  · intro h b hb
    obtain ⟨d, hd, rfl⟩ := List.mem_map.mp hb
    exact (low_vals hn' hm').mpr (h d (List.mem_range.mp hd))
theorem low_hangs {m : Nat → Nat} {p : Pl} {P : List Pl} {F : (Pl → Nat) → Va} {r : Pl → Nat} (hn : (p :: P).Nodup) (hm : ∀ q ∈ p :: P, 0 < m q.2) (h : Hangs m (p :: P) F r) :
    low m (p :: P) F r = .ask p ((List.range (m p.2)).map fun d => low m P F (st r p d)) := by
  rw [low, mk, if_neg]
  intro h'
  exact (mk_cond hn hm).mp h' h
theorem low_not {m : Nat → Nat} {p : Pl} {P : List Pl} {F : (Pl → Nat) → Va} {r : Pl → Nat} (hn : (p :: P).Nodup) (hm : ∀ q ∈ p :: P, 0 < m q.2) (h : ¬ Hangs m (p :: P) F r) :
    low m (p :: P) F r = low m P F (st r p 0) ∧ ∀ d, d < m p.2 → low m P F (st r p d) = low m P F (st r p 0) := by
  have h' := (mk_cond hn hm).mpr h
  rw [head_range (hm p List.mem_cons_self)] at h'
  refine ⟨?_, fun d hd => h' _ (List.mem_map.mpr ⟨d, List.mem_range.mpr hd, rfl⟩)⟩
  rw [low]
  refine mk_all ?_ h'
  have := hm p List.mem_cons_self
  simp; omega

/-- a candidate: c places known by k, and the rest hangs on the next place (or none is left) -/
def Cand (m : Nat → Nat) (P : List Pl) (F : (Pl → Nat) → Va) (r : Pl → Nat) (c : Nat) (k : Pl → Nat) : Prop := c ≤ P.length ∧ k ∈ fil m (P.take c) r ∧ (c = P.length ∨ Hangs m (P.drop c) F k)
theorem sub_low {m : Nat → Nat} {F : (Pl → Nat) → Va} : ∀ {P : List Pl} {r : Pl → Nat} {s : Tr}, P.Nodup → (∀ p ∈ P, 0 < m p.2) → (Sub (low m P F r) s ↔ ∃ c k, Cand m P F r c k ∧ s = low m (P.drop c) F k)
  | [], r, s, _, _ => by
    rw [low, sub_fin]
    constructor
    · intro h
      exact ⟨0, r, ⟨Nat.le_refl _, by simp [fil], .inl rfl⟩, by rw [List.drop_nil, low]; exact h⟩
    · rintro ⟨c, k, ⟨hc, hk, _⟩, h⟩
      rw [List.take_nil, fil, List.mem_singleton] at hk
      rw [h, hk, List.drop_nil, low]
  | p :: P, r, s, hn, hm => by
    have hn' := (List.nodup_cons.mp hn).2
    have hm' : ∀ q ∈ P, 0 < m q.2 := fun q hq => hm q (List.mem_cons_of_mem _ hq)
    have hm0 := hm p List.mem_cons_self
    have right : (∃ c k, Cand m (p :: P) F r c k ∧ s = low m ((p :: P).drop c) F k) ↔ (Hangs m (p :: P) F r ∧ s = low m (p :: P) F r) ∨ ∃ d, d < m p.2 ∧ Sub (low m P F (st r p d)) s := by
      constructor
      · rintro ⟨c, k, ⟨hc, hk, hh⟩, e⟩
        cases c with
        | zero =>
          rw [List.take_zero, fil, List.mem_singleton] at hk
          rw [List.drop_zero] at hh e
          subst hk
          rcases hh with hh | hh
          · simp at hh
          · exact .inl ⟨hh, e⟩
        | succ c =>
          rw [List.take_succ_cons, fil, List.mem_flatMap] at hk
          obtain ⟨d, hd, hk⟩ := hk
          rw [List.drop_succ_cons] at hh e
          refine .inr ⟨d, List.mem_range.mp hd, (sub_low hn' hm').mpr ⟨c, k, ⟨by simp at hc; omega, hk, ?_⟩, e⟩⟩
          rcases hh with hh | hh
          · exact .inl (by simp at hh; omega)
          · exact .inr hh
      · rintro (⟨hh, e⟩ | ⟨d, hd, h⟩)
        · exact ⟨0, r, ⟨Nat.zero_le _, by simp [fil], .inr hh⟩, e⟩
        · obtain ⟨c, k, ⟨hc, hk, hh⟩, e⟩ := (sub_low hn' hm').mp h
          refine ⟨c + 1, k, ⟨by simp; omega, ?_, ?_⟩, e⟩
          · rw [List.take_succ_cons, fil, List.mem_flatMap]
            exact ⟨d, List.mem_range.mpr hd, hk⟩
          · rcases hh with hh | hh
            · exact .inl (by simp; omega)
            · exact .inr hh
    rw [right]
    by_cases hh : Hangs m (p :: P) F r
    · rw [low_hangs hn hm hh, sub_ask]
      constructor
      · rintro (h | ⟨b, hb, h⟩)
        · exact .inl ⟨hh, h⟩
        · obtain ⟨d, hd, rfl⟩ := List.mem_map.mp hb
          exact .inr ⟨d, List.mem_range.mp hd, h⟩
      · rintro (⟨_, h⟩ | ⟨d, hd, h⟩)
        · exact .inl h
        · exact .inr ⟨_, List.mem_map.mpr ⟨d, List.mem_range.mpr hd, rfl⟩, h⟩
    · obtain ⟨e1, e2⟩ := low_not hn hm hh
      rw [e1]
      constructor
      · intro h
        exact .inr ⟨0, hm0, h⟩
      · rintro (⟨h, _⟩ | ⟨d, hd, h⟩)
        · exact absurd h hh
        · rw [e2 d hd] at h; exact h

/-! the marks that the law counts -/
abbrev Mark := Option Pl × List Va
def markOf (m : Nat → Nat) (P : List Pl) (F : (Pl → Nat) → Va) (c : Nat) (k : Pl → Nat) : Mark := (P[c]?, (fil m (P.drop c) k).map F)
noncomputable def marksAt (m : Nat → Nat) (P : List Pl) (F : (Pl → Nat) → Va) (c : Nat) : List Mark :=
  ((fil m (P.take c) zero).filter fun k => decide (c = P.length ∨ Hangs m (P.drop c) F k)).map (markOf m P F c)
noncomputable def marks (m : Nat → Nat) (P : List Pl) (F : (Pl → Nat) → Va) (n : Nat) : List Mark := (List.range n).flatMap (marksAt m P F)
/-- put in, each once -/
def put1 (met : List Mark) (x : Mark) : List Mark := if x ∈ met then met else met ++ [x]
def puts (xs : List Mark) : List Mark := xs.foldl put1 []
theorem put_mem (met : List Mark) (x y : Mark) : y ∈ put1 met x ↔ y ∈ met ∨ y = x := by
  unfold put1; split
  · rename_i h
    exact ⟨.inl, fun h' => h'.elim id fun e => e ▸ h⟩
  · simp
theorem foldl_put_mem : ∀ (xs met : List Mark) (y : Mark), y ∈ xs.foldl put1 met ↔ y ∈ met ∨ y ∈ xs
  | [], met, y => by simp
  | x :: xs, met, y => by
    rw [List.foldl_cons, foldl_put_mem xs, put_mem, List.mem_cons]
    constructor
    · rintro ((h | h) | h)
      · exact .inl h
      · exact .inr (.inl h)
      · exact .inr (.inr h)
    · rintro (h | h | h)
      · exact .inl (.inl h)
      · exact .inl (.inr h)
      · exact .inr h
theorem foldl_put_nodup : ∀ (xs met : List Mark), met.Nodup → (xs.foldl put1 met).Nodup
  | [], met, h => h
  | x :: xs, met, h => by
    rw [List.foldl_cons]
    refine foldl_put_nodup xs _ ?_
    unfold put1; split
    · exact h
    · rename_i hx; exact nodup_snoc h hx
theorem puts_mem (xs : List Mark) (y : Mark) : y ∈ puts xs ↔ y ∈ xs := by
  unfold puts; rw [foldl_put_mem]; simp
theorem puts_nodup (xs : List Mark) : (puts xs).Nodup := foldl_put_nodup xs [] List.nodup_nil
theorem puts_len : ∀ (xs met : List Mark), (xs.foldl put1 met).length ≤ met.length + xs.length
  | [], met => Nat.le_refl _
  | x :: xs, met => by
    rw [List.foldl_cons]
    have h := puts_len xs (put1 met x)
    have h2 : (put1 met x).length ≤ met.length + 1 := by
      unfold put1; split
      · exact Nat.le_succ _
      · rw [List.length_append]; exact Nat.le_refl _
    rw [List.length_cons]; omega
/-- two lists without repeats, in one-to-one relation -/
theorem le_of_rel {α β : Type} (R : α → β → Prop) : ∀ {l : List α} {k : List β}, l.Nodup → (∀ a ∈ l, ∃ b ∈ k, R a b) → (∀ a a' b, R a b → R a' b → a = a') → l.length ≤ k.length
  | [], k, _, _, _ => Nat.zero_le _
  | a :: l, k, hn, h, inj => by
    obtain ⟨b, hb, hab⟩ := h a List.mem_cons_self
    have hlen : (k.erase b).length + 1 = k.length := by
      rw [List.length_erase_of_mem hb]
      have := List.length_pos_of_mem hb
      omega
    have := le_of_rel R (l := l) (k := k.erase b) (List.nodup_cons.mp hn).2 (fun a' ha' => by
      obtain ⟨b', hb', hab'⟩ := h a' (List.mem_cons_of_mem _ ha')
      refine ⟨b', ?_, hab'⟩
      refine (List.mem_erase_of_ne ?_).mpr hb'
      intro e
      subst e
      have := inj a a' b' hab hab'
      subst this
      exact (List.nodup_cons.mp hn).1 ha') inj
    rw [List.length_cons]; omega
theorem at_eq {P : List Pl} (hn : P.Nodup) {c c' : Nat} (hc : c ≤ P.length) (hc' : c' ≤ P.length) (h : P[c]? = P[c']?) : c = c' := by
  rcases Nat.lt_or_ge c P.length with h1 | h1
  · rw [List.getElem?_eq_getElem h1] at h
    exact nodup_at hn (List.getElem?_eq_getElem h1) h.symm
  · rw [List.getElem?_eq_none h1] at h
    have := List.getElem?_eq_none_iff.mp h.symm
    omega
/-- FEWEST: as many marks as parts -/
theorem count_eq {m : Nat → Nat} {P : List Pl} {F : (Pl → Nat) → Va} (hn : P.Nodup) (hm : ∀ p ∈ P, 0 < m p.2) : (puts (marks m P F (P.length + 1))).length = (form (low m P F zero)).length := by
  have hmk : ∀ y, y ∈ puts (marks m P F (P.length + 1)) ↔ ∃ c k, Cand m P F zero c k ∧ y = markOf m P F c k := fun y => by
    rw [puts_mem]
    unfold marks marksAt
    rw [List.mem_flatMap]
    constructor
    · rintro ⟨c, hc, h⟩
      obtain ⟨k, hk, rfl⟩ := List.mem_map.mp h
      obtain ⟨hk1, hk2⟩ := List.mem_filter.mp hk
      have := List.mem_range.mp hc
      exact ⟨c, k, ⟨by omega, hk1, of_decide_eq_true hk2⟩, rfl⟩
    · rintro ⟨c, k, ⟨hc, hk1, hk2⟩, rfl⟩
      exact ⟨c, List.mem_range.mpr (by omega), List.mem_map.mpr ⟨k, List.mem_filter.mpr ⟨hk1, decide_eq_true hk2⟩, rfl⟩⟩
  have htr : ∀ s, s ∈ dec (form (low m P F zero)) ↔ ∃ c k, Cand m P F zero c k ∧ s = low m (P.drop c) F k := fun s => by
    rw [form_mem, sub_low hn hm]
  have nd : ∀ c, (P.drop c).Nodup := fun c => hn.sublist (List.drop_sublist c P)
  have hmd : ∀ c, ∀ p ∈ P.drop c, 0 < m p.2 := fun c p hp => hm p (List.mem_of_mem_drop hp)
  have root : ∀ c k, Cand m P F zero c k → (∃ v, c = P.length ∧ low m (P.drop c) F k = .fin v) ∨ ∃ p bs, P[c]? = some p ∧ low m (P.drop c) F k = .ask p bs := fun c k ⟨hc, _, hh⟩ => by
    rcases Nat.lt_or_ge c P.length with h1 | h1
    · refine .inr ?_
      have e := List.drop_eq_getElem_cons h1
      have hh' : Hangs m (P.drop c) F k := hh.resolve_left (by omega)
      have n1 := nd c
      have m1 := hmd c
      rw [e] at hh' n1 m1
      rw [e]
      exact ⟨_, _, List.getElem?_eq_getElem h1, low_hangs n1 m1 hh'⟩
    · have : c = P.length := by omega
      subst this
      exact .inl ⟨_, rfl, by rw [List.drop_length, low]⟩
  have same : ∀ c k c' k', Cand m P F zero c k → Cand m P F zero c' k' → (markOf m P F c k = markOf m P F c' k' ↔ low m (P.drop c) F k = low m (P.drop c') F k') := fun c k c' k' h h' => by
    constructor
    · intro e
      injection e with e1 e2
      have := at_eq hn h.1 h'.1 e1
      subst this
      exact (low_vals (nd c) (hmd c)).mpr e2
    · intro e
      have hc : c = c' := by
        rcases root c k h with ⟨v, h1, h2⟩ | ⟨p, bs, h1, h2⟩ <;> rcases root c' k' h' with ⟨v', h3, h4⟩ | ⟨p', bs', h3, h4⟩
        · omega
        · rw [h2, h4] at e; cases e
        · rw [h2, h4] at e; cases e
        · rw [h2, h4] at e
          injection e with e1 e2
          subst e1
          exact at_eq hn h.1 h'.1 (h1.trans h3.symm)
      subst hc
      unfold markOf
      rw [(low_vals (nd c) (hmd c)).mp e]
  have hd : (form (low m P F zero)).length = (dec (form (low m P F zero))).length := (dec_length _).symm
  rw [hd]
  let R : Mark → Tr → Prop := fun y s => ∃ c k, Cand m P F zero c k ∧ y = markOf m P F c k ∧ s = low m (P.drop c) F k
  refine Nat.le_antisymm (le_of_rel R (puts_nodup _) (fun y hy => ?_) ?_) (le_of_rel (fun s y => R y s) (form_ok _).trees (fun s hs => ?_) ?_)
  · obtain ⟨c, k, hc, e⟩ := (hmk y).mp hy
    exact ⟨_, (htr _).mpr ⟨c, k, hc, rfl⟩, c, k, hc, e, rfl⟩
  · rintro y y' s ⟨c, k, hc, e1, e2⟩ ⟨c', k', hc', e1', e2'⟩
    rw [e1, e1']
    exact (same c k c' k' hc hc').mpr (e2.symm.trans e2')
  · obtain ⟨c, k, hc, e⟩ := (htr s).mp hs
    exact ⟨_, (hmk _).mpr ⟨c, k, hc, rfl⟩, c, k, hc, rfl, e⟩
  · rintro s s' y ⟨c, k, hc, e1, e2⟩ ⟨c', k', hc', e1', e2'⟩
    rw [e2, e2']
    exact (same c k c' k' hc hc').mp (e1.symm.trans e1')
end K16

/-! Ends; what the loops over open parts decide; places that stand in a tree. -/
set_option autoImplicit false
set_option linter.unusedVariables false
namespace K16
open Classical

/-! ends -/
abbrev Kn := List (Pl × Nat)
mutual
def en : Tr → Kn → List (Kn × Va)
  | .fin v, k => [(k, v)]
  | .ask p bs, k => ens p bs 0 k
def ens (p : Pl) : List Tr → Nat → Kn → List (Kn × Va)
  | [], _, _ => []
  | b :: bs, d, k => en b (k ++ [(p, d)]) ++ ens p bs (d + 1) k
end
def agr (f : Pl → Nat) (k : Kn) : Bool := k.all fun x => f x.1 == x.2
theorem agr_snoc (f : Pl → Nat) (k : Kn) (p : Pl) (d : Nat) : agr f (k ++ [(p, d)]) = (agr f k && (f p == d)) := by
  unfold agr; rw [List.all_append]; simp
def along (f : Pl → Nat) (es : List (Kn × Va)) : List Va := (es.filter fun e => agr f e.1).map (·.2)
theorem along_append (f : Pl → Nat) (xs ys : List (Kn × Va)) : along f (xs ++ ys) = along f xs ++ along f ys := by
  unfold along; rw [List.filter_append, List.map_append]
theorem en_along {m : Nat → Nat} {P : List Pl} {t : Tr} (h : Wf m P t) {f : Pl → Nat} (hf : Vd m P f) : ∀ k : Kn, along f (en t k) = if agr f k = true then [ev t f] else [] := by
  induction h with
  | @fin P v =>
    intro k
    rw [en]
    unfold along
    rw [List.filter_cons]
    split <;> rfl
  | @ask P p bs hp hl _ ih =>
    intro k
    have hlt : f p < bs.length := by rw [hl]; exact hf p hp
    have e1 : bs[f p]? = some bs[f p] := List.getElem?_eq_getElem hlt
    rw [ev_ask e1, en]
    have ih' : ∀ b ∈ bs, ∀ k, along f (en b k) = if agr f k = true then [ev b f] else [] := fun b hb => ih b hb fun q hq => hf q (mem_rem.mp hq).1
    have gen : ∀ (bs : List Tr) (d : Nat), (∀ b ∈ bs, ∀ k, along f (en b k) = if agr f k = true then [ev b f] else []) →
        along f (ens p bs d k) = if agr f k = true then (match (if d ≤ f p then bs[f p - d]? else none) with | some b => [ev b f] | none => []) else [] := by
      intro bs
      induction bs with
      | nil => intro d _; rw [ens]; simp [along]
      | cons b bs ihb =>
        intro d hb
        rw [ens, along_append, hb b List.mem_cons_self, ihb (d + 1) fun c hc => hb c (List.mem_cons_of_mem _ hc), agr_snoc]
        by_cases ha : agr f k = true
        · rw [ha, if_pos rfl, if_pos rfl, Bool.true_and]
          by_cases hd : f p = d
          · subst hd
            rw [if_neg (show ¬ f p + 1 ≤ f p by omega)]
            simp
          · have hne : (f p == d) = false := by simpa using hd
            rw [hne]
            by_cases hlt : d ≤ f p
            · have h1 : d + 1 ≤ f p := by omega
              rw [if_pos h1, if_pos hlt]
              have : f p - d = (f p - (d + 1)) + 1 := by omega
              rw [this, List.getElem?_cons_succ]
              simp
            · rw [if_neg (show ¬ d + 1 ≤ f p by omega), if_neg hlt]
              simp
        · rw [if_neg ha, if_neg ha]
          have : agr f k = false := by simpa using ha
          rw [this]; simp
    rw [gen bs 0 ih']
    simp [e1]
theorem agr_perm {f : Pl → Nat} {k k' : Kn} (h : k.Perm k') : agr f k = agr f k' := by
  unfold agr
  rw [Bool.eq_iff_iff, List.all_eq_true, List.all_eq_true]
  exact ⟨fun h1 x hx => h1 x (h.mem_iff.mpr hx), fun h1 x hx => h1 x (h.mem_iff.mp hx)⟩
/-- the pairs of an end are of the tree's places -/
theorem en_mem {m : Nat → Nat} {P : List Pl} {t : Tr} (h : Wf m P t) : ∀ {k : Kn} {e : Kn × Va}, e ∈ en t k → ∃ x : Kn, e.1 = k ++ x ∧ x.length ≤ P.length ∧ ∀ y ∈ x, y.1 ∈ P ∧ y.2 < m y.1.2 := by
  induction h with
  | fin =>
    intro k e he
    rw [en, List.mem_singleton] at he
    exact ⟨[], by rw [he]; simp, by simp, fun y hy => nomatch hy⟩
  | @ask P p bs hp hl _ ih =>
    intro k e he
    rw [en] at he
    have gen : ∀ (cs : List Tr) (d : Nat), (∀ c ∈ cs, c ∈ bs) → d + cs.length ≤ m p.2 → e ∈ ens p cs d k → ∃ x : Kn, e.1 = k ++ x ∧ x.length ≤ P.length ∧ ∀ y ∈ x, y.1 ∈ P ∧ y.2 < m y.1.2 := by
      intro cs
      induction cs with
      | nil => intro d _ _ h; rw [ens] at h; exact nomatch h
      | cons c cs ihc =>
        intro d hc hd h
        rw [List.length_cons] at hd
        rw [ens, List.mem_append] at h
        rcases h with h | h
        · obtain ⟨x, e1, e2, e3⟩ := ih c (hc c List.mem_cons_self) h
          refine ⟨(p, d) :: x, by rw [e1]; simp, ?_, fun y hy => ?_⟩
          · have := rem_length hp
            rw [List.length_cons]; omega
          · rcases List.mem_cons.mp hy with e | hy
            · subst e
              exact ⟨hp, by show d < m p.2; omega⟩
            · exact ⟨(mem_rem.mp (e3 y hy).1).1, (e3 y hy).2⟩
        · exact ihc (d + 1) (fun x hx => hc x (List.mem_cons_of_mem _ hx)) (by omega) h
    exact gen bs 0 (fun _ h => h) (by omega) he
theorem ens_len {c : Nat} {p : Pl} {k : Kn} : ∀ {bs : List Tr} {d : Nat}, (∀ b ∈ bs, ∀ k, (en b k).length ≤ c) → (ens p bs d k).length ≤ bs.length * c
  | [], d, _ => by rw [ens]; simp
  | b :: bs, d, h => by
    rw [ens, List.length_append, List.length_cons, Nat.succ_mul]
    have h1 := h b List.mem_cons_self (k ++ [(p, d)])
    have h2 := ens_len (k := k) (p := p) (bs := bs) (d := d + 1) fun x hx => h x (List.mem_cons_of_mem _ hx)
    omega
theorem en_len {m : Nat → Nat} {P : List Pl} {t : Tr} (h : Wf m P t) (hn : P.Nodup) (hm : ∀ p ∈ P, 0 < m p.2) : ∀ k : Kn, (en t k).length ≤ prd m P := by
  induction h with
  | fin =>
    intro k
    have := prd_pos hm
    rw [en]; simp; omega
  | @ask P p bs hp hl _ ih =>
    intro k
    rw [en, prd_rem hn hp, ← hl]
    exact ens_len fun b hb k => ih b hb (rem_nodup hn) (fun q hq => hm q (mem_rem.mp hq).1) k

/-! known answers -/
def kst (k : Pl → Option Nat) (p : Pl) (d : Nat) : Pl → Option Nat := fun q => if q = p then some d else k q
def KOk (m : Nat → Nat) (P : List Pl) (k : Pl → Option Nat) : Prop := ∀ p d, k p = some d → p ∈ P ∧ d < m p.2
theorem KOk.kst {m : Nat → Nat} {P : List Pl} {k : Pl → Option Nat} (h : KOk m P k) {p : Pl} {d : Nat} (hp : p ∈ P) (hd : d < m p.2) : KOk m P (kst k p d) := by
  intro q e hq
  unfold K16.kst at hq
  split at hq
  · rename_i h1; cases hq; subst h1; exact ⟨hp, hd⟩
  · exact h q e hq
/-- the tree gives G on all rows that go along with k -/
def EqV (m : Nat → Nat) (P : List Pl) (t : Tr) (G : (Pl → Nat) → Va) (k : Pl → Option Nat) : Prop := ∀ f, Vd m P f → (∀ p d, k p = some d → f p = d) → ev t f = G f
theorem Wf.skip {m : Nat → Nat} {P : List Pl} {t : Tr} (h : Wf m P t) {k : Pl → Option Nat} {Q : List Pl} (hk : KOk m Q k) :
    Wf m P (sk k t) ∧ nd (sk k t) ≤ nd t ∧ (∀ p bs, sk k t = .ask p bs → k p = none) ∧ ∀ f, (∀ p d, k p = some d → f p = d) → ev (sk k t) f = ev t f := by
  induction h with
  | @fin P v =>
    rw [sk]
    exact ⟨.fin, Nat.le_refl _, (fun p bs e => by cases e), fun f _ => rfl⟩
  | @ask P p bs hp hl hb ih =>
    cases hkp : k p with
    | none =>
      rw [sk_none hkp]
      exact ⟨.ask hp hl hb, Nat.le_refl _, fun q cs e => by cases e; exact hkp, fun f _ => rfl⟩
    | some d =>
      have hlt : d < bs.length := by rw [hl]; exact (hk p d hkp).2
      have e1 : bs[d]? = some bs[d] := List.getElem?_eq_getElem hlt
      rw [sk_some hkp e1]
      obtain ⟨h1, h2, h3, h4⟩ := ih _ (List.getElem_mem hlt)
      refine ⟨h1.mono fun q hq => (mem_rem.mp hq).1, ?_, h3, fun f hf => ?_⟩
      · have := nd_lt (p := p) (List.getElem_mem hlt)
        omega
      · rw [h4 f hf, ev_ask (by rw [hf p d hkp]; exact e1)]
theorem eqV_skip {m : Nat → Nat} {P : List Pl} {t : Tr} (h : Wf m P t) {k : Pl → Option Nat} (hk : KOk m P k) (G : (Pl → Nat) → Va) : EqV m P (sk k t) G k ↔ EqV m P t G k := by
  obtain ⟨_, _, _, h4⟩ := h.skip hk
  constructor
  · intro he f hf hx
    rw [← h4 f hx]; exact he f hf hx
  · intro he f hf hx
    rw [h4 f hx]; exact he f hf hx
theorem eqV_fin {m : Nat → Nat} {P : List Pl} {k : Pl → Option Nat} (hk : KOk m P k) (hm : ∀ p ∈ P, 0 < m p.2) (w v : Va) : EqV m P (.fin w) (fun _ => v) k ↔ w = v := by
  constructor
  · intro h
    have := h (fun p => (k p).getD 0) (fun p hp => by
      show (k p).getD 0 < m p.2
      cases e : k p with
      | none => exact hm p hp
      | some d => exact (hk p d e).2) (fun p d e => by simp [e])
    exact this
  · rintro rfl f _ _; rfl
theorem eqV_ask {m : Nat → Nat} {P : List Pl} {p : Pl} {bs : List Tr} {k : Pl → Option Nat} (hp : p ∈ P) (hl : bs.length = m p.2) (hk : k p = none) (G : (Pl → Nat) → Va) :
    EqV m P (.ask p bs) G k ↔ ∀ (d : Nat) (b : Tr), bs[d]? = some b → EqV m P b G (kst k p d) := by
  constructor
  · intro h d b hb f hf hx
    have hfp : f p = d := hx p d (by simp [kst])
    have := h f hf fun q e hq => hx q e (by
      unfold kst; split
      · rename_i e'; subst e'; rw [hk] at hq; cases hq
      · exact hq)
    rw [ev_ask (by rw [hfp]; exact hb)] at this
    exact this
  · intro h f hf hx
    have hlt : f p < bs.length := by rw [hl]; exact hf p hp
    have e1 : bs[f p]? = some bs[f p] := List.getElem?_eq_getElem hlt
    rw [ev_ask e1]
    refine h (f p) _ e1 f hf fun q e hq => ?_
    unfold kst at hq
    split at hq
    · rename_i e'; cases hq; rw [e']
    · exact hx q e hq

/-! places that stand in a tree -/
mutual
def pls : Tr → List Pl
  | .fin _ => []
  | .ask p bs => p :: plss bs
def plss : List Tr → List Pl
  | [] => []
  | b :: bs => pls b ++ plss bs
end
theorem plss_mem : ∀ {bs : List Tr} {p : Pl}, p ∈ plss bs ↔ ∃ b ∈ bs, p ∈ pls b
  | [], p => by simp [plss]
  | b :: bs, p => by rw [plss, List.mem_append, plss_mem]; simp
theorem plss_append (xs ys : List Tr) (p : Pl) : p ∈ plss (xs ++ ys) ↔ p ∈ plss xs ∨ p ∈ plss ys := by
  rw [plss_mem, plss_mem, plss_mem]
  constructor
  · rintro ⟨b, hb, h⟩
    rcases List.mem_append.mp hb with hb | hb
    · exact .inl ⟨b, hb, h⟩
    · exact .inr ⟨b, hb, h⟩
  · rintro (⟨b, hb, h⟩ | ⟨b, hb, h⟩)
    · exact ⟨b, List.mem_append_left _ hb, h⟩
    · exact ⟨b, List.mem_append_right _ hb, h⟩
theorem Wf.pls_sub {m : Nat → Nat} {P : List Pl} {t : Tr} (h : Wf m P t) : ∀ {p : Pl}, p ∈ pls t → p ∈ P := by
  induction h with
  | fin => intro p hp; rw [pls] at hp; exact nomatch hp
  | @ask P q bs hq _ _ ih =>
    intro p hp
    rw [pls] at hp
    rcases List.mem_cons.mp hp with e | hp
    · subst e; exact hq
    · obtain ⟨b, hb, h⟩ := plss_mem.mp hp
      exact (mem_rem.mp (ih b hb h)).1
theorem Wf.own {m : Nat → Nat} {P : List Pl} {t : Tr} (h : Wf m P t) : Wf m (P.filter fun p => decide (p ∈ pls t)) t := by
  induction h with
  | fin => exact .fin
  | @ask P q bs hq hl _ ih =>
    refine .ask (List.mem_filter.mpr ⟨hq, by simp [pls]⟩) hl fun b hb => (ih b hb).mono fun x hx => ?_
    obtain ⟨h1, h2⟩ := List.mem_filter.mp hx
    have h3 := mem_rem.mp h1
    refine mem_rem.mpr ⟨List.mem_filter.mpr ⟨h3.1, ?_⟩, h3.2⟩
    rw [pls]
    exact decide_eq_true (List.mem_cons_of_mem _ (plss_mem.mpr ⟨b, hb, of_decide_eq_true h2⟩))
theorem idle_pls {m : Nat → Nat} {P : List Pl} {T : Tr} (h : Wf m P T) {p : Pl} (hp : p ∉ pls T) : Idle m P (ev T) p :=
  idle_out h.own (fun q hq => (List.mem_filter.mp hq).1) fun hq => hp (of_decide_eq_true (List.mem_filter.mp hq).2)

/-! the order of places -/
def plt (p q : Pl) : Prop := p.1 < q.1 ∨ (p.1 = q.1 ∧ p.2 < q.2)
theorem plt_irr {p q : Pl} (h : plt p q) : ¬ plt q p := by
  rcases h with h | ⟨h1, h2⟩ <;> rintro (h' | ⟨h1', h2'⟩) <;> omega
theorem plt_ne {p q : Pl} (h : plt p q) : p ≠ q := fun e => by subst e; exact plt_irr h h
abbrev Asc (P : List Pl) : Prop := P.Pairwise plt
theorem Asc.nodup {P : List Pl} (h : Asc P) : P.Nodup := h.imp plt_ne
theorem find_asc {P : List Pl} (h : Asc P) {f : Pl → Bool} {p : Pl} (hf : P.find? f = some p) : p ∈ P ∧ f p = true ∧ ∀ q ∈ P, f q = true → q = p ∨ plt p q := by
  obtain ⟨A, R, e, h1, h2⟩ := find_split hf
  subst e
  refine ⟨by simp, h1, fun q hq hfq => ?_⟩
  rcases List.mem_append.mp hq with hq | hq
  · rw [h2 q hq] at hfq; cases hfq
  · rcases List.mem_cons.mp hq with hq | hq
    · exact .inl hq
    · exact .inr ((List.pairwise_cons.mp (List.pairwise_append.mp h).2.1).1 q hq)
theorem find_same {P Q : List Pl} (hP : Asc P) (hQ : Asc Q) {f : Pl → Bool} (h1 : ∀ p ∈ Q, p ∈ P) (h2 : ∀ p ∈ P, f p = true → p ∈ Q) : P.find? f = Q.find? f := by
  cases e : P.find? f with
  | none =>
    refine (List.find?_eq_none.mpr fun q hq => ?_).symm
    exact List.find?_eq_none.mp e q (h1 q hq)
  | some p =>
    obtain ⟨a1, a2, a3⟩ := find_asc hP e
    cases e' : Q.find? f with
    | none => exact absurd a2 (List.find?_eq_none.mp e' p (h2 p a1 a2))
    | some q =>
      obtain ⟨b1, b2, b3⟩ := find_asc hQ e'
      rcases a3 q (h1 q b1) b2 with h | h
      · rw [h]
      · rcases b3 p (h2 p a1 a2) a2 with h' | h'
        · rw [h']
        · exact absurd h (plt_irr h')
/-- idle by the sides -/
theorem idle_sides {m : Nat → Nat} {P : List Pl} {T : Tr} (h : Wf m P T) {p : Pl} (hp : p ∈ P) (hm : ∀ p ∈ P, 0 < m p.2) :
    (∀ d, d < m p.2 → EqV m P (fx p 0 T) (ev (fx p d T)) fun _ => none) ↔ Idle m P (ev T) p := by
  constructor
  · intro he f hf d hd
    have := he d hd f hf fun _ _ e => nomatch e
    rw [h.ev_fix (hm p hp) hf, h.ev_fix hd hf] at this
    exact this.symm
  · intro hi d hd f hf _
    rw [h.ev_fix (hm p hp) hf, h.ev_fix hd hf]
    exact (hi f hf d hd).symm
end K16

set_option Elab.async false
set_option linter.all false
set_option maxRecDepth 100000
/-! Defs whose promise holds where no repr is under way (the guards are known to be none). -/
namespace K16
open PySem PySem.Spec PyProof.Rows L2

structure FnG (P : Program) (w : World) (K : PySem.W.Frag) (mg : Str → Option Value) (base : Heap) (k : Nat) (f : Addr) (fd : FuncData) (ps : List Str) (sp : Sp) : Prop where
  len : ∀ vs H Q E, sp vs H Q E → vs.length = ps.length
  run : ∀ (A : Around) (outer : List Env) (s : Shared) (H : Hp) (args : Args) (us : List Value) (vs : List V) (Q : VK) (E : XK), Room k A → A.guards = some [] → Env0 P w K mg base A outer s H →
    BindsTo s fd args (ps.zip us) → Vals vs us → sp vs H Q E → codeAny (model P w) A (.call (.ref f) args) (CR CX0 outer P w H s Q E) s
theorem FnG.mono {P : Program} {w : World} {K : PySem.W.Frag} {mg : Str → Option Value} {base : Heap} {j k : Nat} {f : Addr} {fd : FuncData} {ps : List Str} {sp : Sp} (F : FnG P w K mg base j f fd ps sp) (h : j ≤ k) : FnG P w K mg base k f fd ps sp :=
  ⟨F.len, fun A outer s H args us vs Q E hr => F.run A outer s H args us vs Q E (hr.mono h)⟩
section
variable {P : Program} {w : World} {K : PySem.W.Frag} {mg : Str → Option Value} {base : Heap}
/-- a def by its body, no repr under way -/
theorem okG {x qual : Str} {st : Stmt} {f : Addr} {fd : FuncData} {N ps : List Str} {k : Nat} {sp : Sp} (F : Fun K x qual st f fd) (S : FnScope N ps (defScope st)) (hlen : ∀ vs H Q E, sp vs H Q E → vs.length = ps.length)
    (hbody : ∀ (cdv : Value) (A : Around) (outer : List Env) (s : Shared) (H : Hp) (vs : List V) (Q : VK) (E : XK), Room k (A.deeper (envOfC qual (defScope st) s.heap.objs.size f cdv)) → A.guards = some [] → sp vs H Q E →
      ∃ t, PSs (cxOf CX0 P w K mg base N qual (defScope st) f cdv A outer s H E).nox (defBody st) t ∧ t { nx := fun _ H' => Q .non H', rt := Q } (start N vs) H) : FnG P w K mg base (k + 1) f fd ps sp := by
  obtain ⟨oc, od, kV, doc, pm, an, cdv, ct, osl, rfl, lk, hcd⟩ := F.ex
  constructor
  · exact hlen
  intro A outer s H args us vs Q E hr hgu e0 hb r hsp
  have kept : ∀ b o, base.get? b = some o → s.heap.get? b = some o := fun b o e => (e0.bs b o e).1
  have KX : K.In s.heap := e0.mod.kin.keeps kept
  have nol : s.heap.NoLimit := e0.mod.nolimit.keeps kept
  have hpar : ∀ y ∈ ps.zip us, (defScope st).names.lookup y.1 = some .local ∨ ((defScope st).names.lookup y.1 = some .cell ∧ ((cellsFrom (s.heap.objs.size + 1) (defScope st).names []).lookup y.1).isSome = true) := by
    rintro ⟨n, v⟩ hy
    cases S.par n (List.of_mem_zip hy).1 with
    | inl q => exact Or.inl q
    | inr q => exact Or.inr ⟨q, PySem.W.cellsFrom_some _ _ _ (Or.inl q)⟩
  apply codeAny_call_function hr.depth (KX _ _ lk) rfl S.co S.gen rfl (PySem.W.codeRec_of KX hcd)
  apply hb
  apply wpAny_newFunctionEnv_cells S.kind hpar
  intro env he s1 x
  subst he
  refine ⟨nol.keeps x.toInCall.keep, codeAny_func ?_⟩
  obtain ⟨t, ht, hq⟩ := hbody cdv A outer s H vs Q E (hr.deeper _) hgu hsp
  have J0 : Inv (cxOf CX0 P w K mg base N qual (defScope st) f cdv A outer s H E) [] (start N vs) H s1 := inv_start S hr.hd e0 (hlen _ _ _ _ hsp) r x
  apply wpAny_mono (ht.nox.run [] s1 (start N vs) H _ J0 hq)
  · intro fl s' hs
    cases fl with
    | ret u => obtain ⟨v, σ1, H1, J, rv, q⟩ := hs; exact ⟨v, H1, J.os, J.bare, J.base, J.hok, rv, q⟩
    | next => obtain ⟨σ1, H1, J, q⟩ := hs; exact ⟨V.non, H1, J.os, J.bare, J.base, J.hok, rfl, q⟩
    | brk => obtain ⟨σ1, H1, J, q⟩ := hs; cases q
    | cont => obtain ⟨σ1, H1, J, q⟩ := hs; cases q
  · exact fun e s' hs => hs
end
section
variable {X : Cx} {k : Nat} {f : Addr} {fd : FuncData} {ps : List Str} {sp : Sp} {x : Str} {p pos : Pos} {e : Expr} {es : List Expr} {t : TA}
theorem run_fnG {pins : List (Addr × Obj)} {σ : L2.St} {H : Hp} {s : Shared} {Q : VK} {us : List Value} {vs : List V} (F : FnG X.prog X.w X.K X.mg X.base k f fd ps sp) (hr : Room k X.A) (hgu : X.A.guards = some []) (hb : Binds X.K fd ps [])
    (I : Inv X pins σ H s) (r : Vals vs us) (h : sp vs H Q E0) : wpAny (model X.prog X.w) X.A (call (.ref f) us) (EP X pins σ Q) X.xe s := by
  have hl : us.length = ps.length := r.length.symm.trans (F.len _ _ _ _ h)
  have hbb := hb s us I.kIn (by simpa using hl)
  rw [List.append_nil] at hbb
  apply wpAny_call
  apply codeAny_mono (F.run X.A X.stack s H ⟨us, []⟩ us vs Q E0 hr hgu I.env0 hbb r h)
  intro res s' hq
  rcases res with e | fl
  · exact False.elim hq
  · rcases fl with _ | _ | _ | u
    all_goals first | exact I.after hq | exact False.elim hq
theorem pe_callG (F : FnG X.prog X.w X.K X.mg X.base k f fd ps sp) (hr : Room k X.A) (hgu : X.A.guards = some []) (hg : Gl X x) (hm : X.mg x = some (.ref f)) (hk : PySem.W.keepIn X.K (.ref f) = true) (hb : Binds X.K fd ps [])
    (ha : PA X (e :: es) t) (hdb : (x == ("__debug__" : Str)) = false := by decide) (he : starEach (e :: es) X.env = (false, eval e X.env) :: starEach es X.env := by rfl) (hpl : (backTo pos (starEach es X.env)).any (·.1) = false := by rfl) :
    PE X (.Call (.Name x p) (e :: es) [] pos) (fun σ H Q => t σ H fun vs H1 => sp vs H1 Q E0) := by
  constructor
  intro pins s σ H Q I h
  apply wpAny_Call_Name_kw
  apply ld_glob I hg hm ?_ hdb
  apply PySem.W.callWith_K (h₀ := X.base) I.ok.mod.kin hk (thn (ha.run pos pins s σ H _ I h) ?_) he hpl
  rintro us s1 ⟨vs, H1, I1, r, q⟩
  exact ⟨I1.kIn, run_fnG F hr hgu hb I1 r q⟩
theorem pe_callG0 (F : FnG X.prog X.w X.K X.mg X.base k f fd ps sp) (hr : Room k X.A) (hgu : X.A.guards = some []) (hg : Gl X x) (hm : X.mg x = some (.ref f)) (hk : PySem.W.keepIn X.K (.ref f) = true) (hb : Binds X.K fd ps [])
    (hdb : (x == ("__debug__" : Str)) = false := by decide) : PE X (.Call (.Name x p) [] [] pos) (fun σ H Q => sp [] H Q E0) := by
  constructor
  intro pins s σ H Q I h
  apply wpAny_Call_Name_kw
  apply ld_glob I hg hm ?_ hdb
  exact PySem.W.callWith_K0 I.kIn hk (run_fnG (us := []) F hr hgu hb I .nil h)
end

/-- the law's call, from a promise that asks that no repr is under way -/
theorem law_callG {P : Program} {w : World} {K : PySem.W.Frag} {mg mb : Str → Option Value} {k : Nat} {fa a : Addr} {fd : FuncData} {x : Str} {sp : Sp} {s1 : Shared} {vs : List Value} {ns : List Int}
    (KX : K.In s1.heap) (hns : s1.heap.Ns mainGlobals mg) (hb : s1.heap.Ns builtinsNs mb) (hbb : ∀ x : Str, x ≠ "__name__" → mb x = bootBuiltins x) (hlim : s1.heap.NoLimit) (hg : s1.gens = #[])
    (ha : s1.heap.get? a = some { cls := .type "list", data := .seq vs.toArray }) (hi : IntsAre vs ns) (hl : ns.length ≤ sizeLine) (hr : Room k callerA)
    (F : ∀ base : Heap, K.In base → base.Ns mainGlobals mg → FnG P w K mg base k fa fd [x] sp) (hbind : ∀ (s : Shared) (u : Value), BindsTo s fd ⟨[u], []⟩ [(x, u)])
    (hsp : ∀ H : Hp, Only H → SqL K H a (ns.map V.int) → sp [.ref a] H (fun v _ => v = .bl true) fun _ _ _ => False) :
    codeAny (model P w) callerA (.call (.ref fa) ⟨[.ref a], []⟩) (fun r s' => r = .ok (.ret (.bool true)) ∧ OldK s1.heap s'.heap ∧ s'.os = s1.os ∧ AllBare s'.gens) s1 := by
  have rv := vals_ints hi
  have lenV := hi.length
  have step : ∀ H : Hp, Only H → SqL K H a (ns.map V.int) → HOk P w H s1.heap → (∀ b, H b ≠ none → b = a) → (H a ≠ none → K.lookup a = none) →
      codeAny (model P w) callerA (.call (.ref fa) ⟨[.ref a], []⟩) (fun r s' => r = .ok (.ret (.bool true)) ∧ OldK s1.heap s'.heap ∧ s'.os = s1.os ∧ AllBare s'.gens) s1 := by
    intro H hO hS hok hA hK
    have free : ∀ {b : Addr} {o : Obj} {es : Array DictEntry} {ep : Nat}, s1.heap.get? b = some o → o.data = .dict es ep → H b = none := by
      intro b o es ep e d
      cases q : H b with
      | none => rfl
      | some u =>
        have hba : b = a := hA b (by rw [q]; exact fun z => nomatch z)
        rw [hba, ha] at e
        cases e
        exact nomatch d
    have nsK : ∀ {b : Addr} {m : Str → Option Value}, s1.heap.Ns b m → (hidT s1.heap H).Ns b m := by
      rintro b m ⟨o, es, ep, e, d, r⟩
      exact ⟨o, es, ep, hidT_get e (free e d), d, r⟩
    have hKb : K.In (hidT s1.heap H) := by
      intro b o e
      refine hidT_get (KX b o e) ?_
      cases q : H b with
      | none => rfl
      | some u =>
        have hba : b = a := hA b (by rw [q]; exact fun z => nomatch z)
        rw [hba] at e q
        rw [hK (by rw [q]; exact fun z => nomatch z)] at e
        cases e
    have hM : Mod K mg (hidT s1.heap H) := by
      obtain ⟨mc, c1, c2⟩ := hlim
      exact ⟨hKb, nsK hns, ⟨mb, nsK hb, hbb⟩, ⟨mc, nsK c1, c2⟩⟩
    have e0 : Env0 P w K mg (hidT s1.heap H) callerA [] s1 H := by
      refine ⟨rfl, hM, fun b o e => of_hidT e, Nat.le_of_eq (hidT_size _ _), trivial, ?_, hok, .of_eq hg⟩
      intro b hb
      cases hb
    apply codeAny_mono ((F _ hKb (nsK hns)).run callerA [] s1 H ⟨[.ref a], []⟩ [.ref a] [.ref a] _ _ hr rfl e0 (hbind s1 (.ref a)) (.cons rfl .nil) (hsp H hO hS))
    intro r s' h
    rcases r with e | fl
    · exact False.elim h
    rcases fl with _ | _ | _ | u
    · exact False.elim h
    · exact False.elim h
    · exact False.elim h
    obtain ⟨v, H1, os, bare, un, hok1, rv1, q⟩ := h
    have hv : v = .bl true := q
    rw [hv] at rv1
    have hu : u = Value.bool true := rv1
    refine ⟨by rw [hu], OldK.of_keep ?_, os, bare⟩
    intro b o e
    cases q : H b with
    | none =>
      refine un.keep b o e q ?_ ?_
      · intro z; cases z
      · intro z; cases z
    | some u =>
      rcases hO b with z | ⟨ob, xs, z⟩
      · rw [q] at z; cases z
      · have g1 := (hok b _ z).1
        have g2 := (hok1 b _ (un.frzs b ob _ z)).1
        rw [e] at g1
        cases g1
        exact g2
  cases hk : K.lookup a with
  | some o =>
    have e := KX a o hk
    rw [ha] at e
    cases e
    refine step (fun _ => none) (fun _ => Or.inl rfl) (Or.inr ⟨_, vs.toArray, _, hk, rfl, rfl, rfl, by rw [List.size_toArray, lenV]; exact hl, by simpa using rv⟩) ?_ ?_ ?_
    · intro b u z; cases z
    · intro b z; exact absurd rfl z
    · intro z; exact absurd rfl z
  | none =>
    refine step (fun b => if b = a then some (.frz { cls := .type "list", data := .seq vs.toArray } (.lst (ns.map V.int))) else none) ?_ (Or.inl (Or.inr ⟨{ cls := .type "list", data := .seq vs.toArray }, if_pos rfl⟩)) ?_ ?_ fun _ => hk
    · intro b
      by_cases hb : b = a
      · exact Or.inr ⟨_, _, if_pos hb⟩
      · exact Or.inl (if_neg hb)
    · intro b u z
      by_cases hb : b = a
      · subst hb
        have z1 := (if_pos rfl).symm.trans z
        cases z1
        exact ⟨ha, by rw [List.length_map]; exact hl, vs, _, rv, ha⟩
      · have z1 := (if_neg hb).symm.trans z
        cases z1
    · intro b z
      by_cases hb : b = a
      · exact hb
      · exact absurd (if_neg hb) z
theorem walk_ofG {l : PySem.W.OpenLaw} {n k : Nat} {q : Program} {loose : List Str} {XP : (Str → Option Value) → Heap → Prop} {YP : World → Heap → Prop} {d : DefRec} {K : Params → PySem.W.Frag} {sp : World → Sp} {x : Str}
    (hn : l.most = some n) (hn2 : n ≤ sizeLine) (hdf : d.params.defaults = []) (hr : Room k callerA) (hY : ∀ (w : World) (h : Heap), YP w h → (K w.params).In h)
    (F : ∀ (w : World) (mg : Str → Option Value) (fa : Addr) (h : Heap), (K w.params).In h → h.Ns mainGlobals mg → mg d.name = some (.ref fa) →
      ∃ fd : FuncData, (∀ (s : Shared) (u : Value), BindsTo s fd ⟨[u], []⟩ [(x, u)]) ∧ ∀ base : Heap, (K w.params).In base → base.Ns mainGlobals mg → FnG l.prog w (K w.params) mg base k fa fd [x] (sp w))
    (hsp : ∀ (w : World) (H : Hp) (a : Addr) (ns : List Int), ns.length ≤ n → Only H → SqL (K w.params) H a (ns.map V.int) → sp w [.ref a] H (fun v _ => v = .bl true) fun _ _ _ => False) :
    PySem.W.WalkO q loose XP YP l.row.toRowW d [] (fun f vs => PySem.call f vs) := by
  apply Att.attach_call hn hdf
  intro w s0 s1 mg mb fa o pm cd doc a vs ns G Y ho hd hcd hmg hobj hints hlen hg
  obtain ⟨fd, hb, hF⟩ := F w mg fa _ (hY w _ Y) G.T.g hmg
  exact law_callG (hY w _ Y) G.T.g G.T.b G.T.builtins G.T.nolimit hg hobj hints (Nat.le_trans hlen hn2) hr hF hb fun H hO hS => hsp w H a ns hlen hO hS
end K16

set_option Elab.async false
set_option linter.all false
set_option maxRecDepth 100000
/-! Data of tuples, ints and texts in the heap; rules for repr, sorted, dict(d), extend by a tuple. -/
namespace K16
open PySem PySem.Spec PyProof.Rows L2

mutual
inductive Ts (H : Hp) : V → PyData → Prop
  | int (i : Int) : Ts H (.int i) (.int i)
  | str (x : Str) : Ts H (.str x) (.str x)
  | tup {a : Addr} {xs : List V} {ds : List PyData} : H a = some (.tup xs) → TsA H xs ds → Ts H (.ref a) (.tuple ds)
inductive TsA (H : Hp) : List V → List PyData → Prop
  | nil : TsA H [] []
  | cons {v : V} {vs : List V} {d : PyData} {ds : List PyData} : Ts H v d → TsA H vs ds → TsA H (v :: vs) (d :: ds)
end
/-- tuples stay -/
def TK (H H' : Hp) : Prop := ∀ b xs, H b = some (.tup xs) → H' b = some (.tup xs)
theorem TK.refl (H : Hp) : TK H H := fun _ _ h => h
theorem TK.trans {H H1 H2 : Hp} (a : TK H H1) (b : TK H1 H2) : TK H H2 := fun c xs h => b c xs (a c xs h)
theorem TK.of {H H' : Hp} (s : Same H H') : TK H H' := fun b xs h => s b _ h
theorem TK.new {H : Hp} {p : Addr} (h : H p = none) (o : HO) : TK H (upd H p o) := fun b xs q => by rw [upd_ne (ne_of_none q h)]; exact q
theorem TK.lst {H : Hp} {p : Addr} {ys : List V} (h : H p = some (.lst ys)) (o : HO) : TK H (upd H p o) := fun b xs q => by rw [upd_ne (ne_of q h (fun z => nomatch z))]; exact q
theorem TK.dict {H : Hp} {p : Addr} {ys : List (List Key × V)} (h : H p = some (.dT ys)) (o : HO) : TK H (upd H p o) := fun b xs q => by rw [upd_ne (ne_of q h (fun z => nomatch z))]; exact q
theorem TK.dictK {H : Hp} {p : Addr} {ys : List (Key × V)} (h : H p = some (.dK ys)) (o : HO) : TK H (upd H p o) := fun b xs q => by rw [upd_ne (ne_of q h (fun z => nomatch z))]; exact q
theorem TK.ext {H : Hp} {p : Addr} {f : Heap → Prop} (h : H p = some (.ext f)) (o : HO) : TK H (upd H p o) := fun b xs q => by rw [upd_ne (ne_of q h (fun z => nomatch z))]; exact q
theorem Same.new {H : Hp} {p : Addr} (h : H p = none) (o : HO) : Same H (upd H p o) := fun b u q => by rw [upd_ne (ne_of_none q h)]; exact q
/-- what stood ahead stays when something newer is written -/
theorem Same.put {H0 H : Hp} {p : Addr} (s : Same H0 H) (h : H0 p = none) (o : HO) : Same H0 (upd H p o) := fun b u q => by rw [upd_ne (ne_of_none q h)]; exact s b u q

mutual
theorem Ts.keep {H H' : Hp} (k : TK H H') : ∀ (d : PyData) (v : V), Ts H v d → Ts H' v d
  | .int i, _, h => by cases h; exact .int i
  | .str x, _, h => by cases h; exact .str x
  | .tuple ds, _, h => by
    cases h with
    | tup e t => exact .tup (k _ _ e) (TsA.keep k ds _ t)
  | .none, _, h => nomatch h
  | .bool _, _, h => nomatch h
  | .list _, _, h => nomatch h
  | .dict _, _, h => nomatch h
theorem TsA.keep {H H' : Hp} (k : TK H H') : ∀ (ds : List PyData) (vs : List V), TsA H vs ds → TsA H' vs ds
  | [], _, h => by cases h; exact .nil
  | d :: ds, _, h => by
    cases h with
    | cons a t => exact .cons (Ts.keep k d _ a) (TsA.keep k ds _ t)
end
mutual
theorem Ts.dp {K : PySem.W.Frag} {H : Hp} : ∀ (d : PyData) (v : V), Ts H v d → Dp K H v d
  | .int i, _, h => by cases h; exact .int i
  | .str x, _, h => by cases h; exact .str x
  | .tuple ds, _, h => by
    cases h with
    | tup e t => exact .tup (SqT.of e) (TsA.dp ds _ t)
  | .none, _, h => nomatch h
  | .bool _, _, h => nomatch h
  | .list _, _, h => nomatch h
  | .dict _, _, h => nomatch h
theorem TsA.dp {K : PySem.W.Frag} {H : Hp} : ∀ (ds : List PyData) (vs : List V), TsA H vs ds → DpAll K H vs ds
  | [], _, h => by cases h; exact .nil
  | d :: ds, _, h => by
    cases h with
    | cons a t => exact .cons (Ts.dp d _ a) (TsA.dp ds _ t)
end
mutual
theorem Ts.inj {H : Hp} : ∀ (d d' : PyData) (v : V), Ts H v d → Ts H v d' → d = d'
  | .int i, d', _, h, h' => by cases h; cases h'; rfl
  | .str x, d', _, h, h' => by cases h; cases h'; rfl
  | .tuple ds, d', _, h, h' => by
    cases h with
    | tup e t =>
      cases h' with
      | tup e' t' =>
        rw [e] at e'
        cases e'
        rw [TsA.inj ds _ _ t t']
  | .none, _, _, h, _ => nomatch h
  | .bool _, _, _, h, _ => nomatch h
  | .list _, _, _, h, _ => nomatch h
  | .dict _, _, _, h, _ => nomatch h
theorem TsA.inj {H : Hp} : ∀ (ds ds' : List PyData) (vs : List V), TsA H vs ds → TsA H vs ds' → ds = ds'
  | [], ds', _, h, h' => by cases h; cases h'; rfl
  | d :: ds, ds', _, h, h' => by
    cases h with
    | cons a t =>
      cases h' with
      | cons a' t' => rw [Ts.inj d _ _ a a', TsA.inj ds _ _ t t']
end
section
variable {X : Cx} {pins : List (Addr × Obj)} {σ : L2.St} {H : Hp} {s : Shared}
mutual
theorem Ts.reads (I : Inv X pins σ H s) : ∀ (d : PyData) (v : V) (u : Value), Ts H v d → RelV v u → Reads s.heap u d []
  | .int i, _, _, h, r => by
    cases h
    obtain ⟨t, rfl⟩ := r
    exact .int i t
  | .str x, _, _, h, r => by
    cases h
    obtain ⟨t, rfl⟩ := r
    exact .str x t
  | .tuple ds, _, _, h, r => by
    cases h with
    | tup e t =>
      cases r
      obtain ⟨_, its, rv, o, ho, hc, n, hd⟩ := I.hok _ _ e
      exact .tuple ho hc hd (TsA.reads I ds _ _ t rv)
  | .none, _, _, h, _ => nomatch h
  | .bool _, _, _, h, _ => nomatch h
  | .list _, _, _, h, _ => nomatch h
  | .dict _, _, _, h, _ => nomatch h
theorem TsA.reads (I : Inv X pins σ H s) : ∀ (ds : List PyData) (vs : List V) (us : List Value), TsA H vs ds → Vals vs us → ReadsAll s.heap us ds []
  | [], _, _, h, r => by
    cases h; cases r
    exact .nil
  | d :: ds, _, _, h, r => by
    cases h with
    | cons a t =>
      cases r with
      | cons r1 r2 => exact .cons (as := []) (bs := []) (Ts.reads I d _ _ a r1) (TsA.reads I ds _ _ t r2)
end
end
theorem TsA.length {H : Hp} : ∀ {vs : List V} {ds : List PyData}, TsA H vs ds → vs.length = ds.length
  | _, _, .nil => rfl
  | _, _, .cons _ t => by rw [List.length_cons, List.length_cons, TsA.length t]
theorem TsA.get {H : Hp} : ∀ {vs : List V} {ds : List PyData} {i : Nat} {d : PyData}, TsA H vs ds → ds[i]? = some d → ∃ v, vs[i]? = some v ∧ Ts H v d
  | _, _, _, _, .nil, e => by simp at e
  | _, _, 0, _, .cons a _, e => by simp at e; subst e; exact ⟨_, rfl, a⟩
  | _, _, i + 1, _, .cons _ t, e => by
    rw [List.getElem?_cons_succ] at e
    obtain ⟨v, h1, h2⟩ := TsA.get t e
    exact ⟨v, by rw [List.getElem?_cons_succ]; exact h1, h2⟩
theorem TsA.append {H : Hp} : ∀ {vs ws : List V} {ds es : List PyData}, TsA H vs ds → TsA H ws es → TsA H (vs ++ ws) (ds ++ es)
  | _, _, _, _, .nil, h => h
  | _, _, _, _, .cons a t, h => .cons a (TsA.append t h)
theorem TsA.ints {H : Hp} : ∀ ns : List Int, TsA H (ns.map V.int) (ns.map PyData.int)
  | [] => .nil
  | n :: ns => .cons (.int n) (TsA.ints ns)

/-! ### repr -/
section
variable {X : Cx}
def seqLike : PyData → Bool
  | .list _ => true
  | .tuple _ => true
  | _ => false
def rRepr (K : PySem.W.Frag) : List V → Hp → VK → Prop := fun vs H Q => ∃ v d, vs = [v] ∧ Dp K H v d ∧ seqLike d = true ∧ d.showable = true ∧ d.hasDict = false ∧ d.depth ≤ 60 ∧ d.shown.length ≤ sizeLine ∧ Q (.str d.shown) H
theorem cr_repr (hgu : X.A.guards = some []) (hu : X.A.units + 64 < cLine) : CallR X (.builtin "repr") (rRepr X.K) := by
  intro pins s σ H vs us Q I r h
  obtain ⟨v, d, rfl, hd, hs, hsh, hnd, hdp, hsz, q⟩ := h
  obtain ⟨u, rfl, ru⟩ := r.one
  obtain ⟨as, rd⟩ := Dp.reads I d v u hd ru
  obtain ⟨a, rfl⟩ : ∃ a, u = .ref a := by
    cases hd with
    | lst _ _ => exact ⟨_, ru⟩
    | tup _ _ => exact ⟨_, ru⟩
    | non => cases hs
    | bl _ => cases hs
    | int _ => cases hs
    | str _ => cases hs
  refine repr_of_reads' rd hsh (PyData.noDict_hsm hnd) hgu (by omega) (fun _ _ e => e) (fun h' u tk hk => ?_) hsz
  exact ⟨.str d.shown, H, I.kept hk, ⟨_, rfl⟩, q⟩
end

/-! ### sorted, of a list or a tuple of data -/
section
variable {X : Cx}
def rSortD (K : PySem.W.Frag) {β : Type} (enc : β → PyData) : List V → Hp → VK → Prop := fun vs H Q => ∃ (a : Addr) (xs : List V) (bs : List β), vs = [V.ref a] ∧ (SqL K H a xs ∨ SqT K H a xs) ∧ TsA H xs (bs.map enc) ∧
  PySem.W.AllAlike (bs.map enc) ∧ PySem.W.Sortable (bs.map enc) ∧ (∀ b ∈ bs, (enc b).depth ≤ 50) ∧
  ∀ (p : Addr) (ys : List V), H p = none → TsA H ys ((bs.mergeSort (PySem.W.dataLe false enc)).map enc) → Q (.ref p) (upd H p (.lst ys))
theorem each_of {H : Hp} {β : Type} (enc : β → PyData) : ∀ {xs : List V} {vs : List Value} {bs : List β}, TsA H xs (bs.map enc) → Vals xs vs → PySem.W.EachIs (fun u b => ∃ x, RelV x u ∧ Ts H x (enc b)) vs bs
  | _, _, [], h, r => by
    cases h; cases r; exact .nil
  | _, _, b :: bs, h, r => by
    cases h with
    | cons a t =>
      cases r with
      | cons r1 r2 => exact .cons ⟨_, r1, a⟩ (each_of enc t r2)
theorem of_each {H : Hp} {β : Type} (enc : β → PyData) : ∀ {vs : List Value} {bs : List β}, PySem.W.EachIs (fun u b => ∃ x, RelV x u ∧ Ts H x (enc b)) vs bs → ∃ xs, Vals xs vs ∧ TsA H xs (bs.map enc)
  | _, [], h => by cases h; exact ⟨[], .nil, .nil⟩
  | _, b :: bs, h => by
    cases h with
    | cons a t =>
      obtain ⟨x, r, hx⟩ := a
      obtain ⟨xs, rs, hs⟩ := of_each enc t
      exact ⟨x :: xs, .cons r rs, .cons hx hs⟩
theorem cr_sortedD {β : Type} {enc : β → PyData} (hu : X.A.units + 64 < cLine) : CallR X (.builtin "sorted") (rSortD X.K enc) := by
  intro pins s σ H vs us Q I r h
  obtain ⟨a, xs, bs, rfl, hq, hts, hal, hso, hdp, q⟩ := h
  rw [Vals.ref1 r]
  obtain ⟨its, T, o, n, rv, hT, ho, hc, hd, hz⟩ : ∃ (its : List Value) (T : String) (o : Obj) (n : Nat), Vals xs its ∧ (T = "list" ∨ T = "tuple") ∧ s.heap.get? a = some o ∧ o.cls = .type T ∧ o.data = .seq its.toArray n ∧ xs.length ≤ sizeLine := by
    rcases hq with hq | hq
    · obtain ⟨its, rv, p, hz⟩ := I.list hq
      obtain ⟨o, n, h1, h2, h3, h4⟩ := p
      exact ⟨its, "list", o, _, rv, .inl rfl, h1, h2, by first | exact h3 | exact h4, hz⟩
    · obtain ⟨its, rv, p, hz⟩ := I.tuple hq
      obtain ⟨o, h1, h2, n, h3⟩ := p
      exact ⟨its, "tuple", o, n, rv, .inr rfl, h1, h2, h3, hz⟩
  have hlen : its.length = bs.length := by
    have h1 := rv.length
    have h2 := hts.length
    rw [List.length_map] at h2
    omega
  have hzi : its.length ≤ sizeLine := by have := rv.length; omega
  refine PySem.Calls.call_function_entry PyProof.Rows.kind_sorted PyProof.Rows.plain_sorted PyProof.Rows.entry_sorted (PyProof.Rows.args_sorted1 _) ?_
  unfold Builtin.«sorted»
  refine wpAny_bind (m := checkCount "sorted" 1 1 _) (wpAny_pure ?_)
  refine wpAny_bind (wpAny_collect_seq (A := X.A.in1) a hT ho hc hd (fun h' hk => ?_) (by rw [List.size_toArray]; exact hzi))
  refine wpAny_bind (wpAny_newList ?_ (by simpa using hzi))
  have I1 : Inv X pins σ H { s with heap := h' } := I.kept (t' := s.toks) hk
  have hN : (h'.push { cls := .type "list", data := .seq its.toArray }).get? h'.objs.size = some (PyProof.Rows.seqObj "list" its.toArray 0) := Heap.get?_push_size _ rfl
  have I2 : Inv X pins σ (upd H h'.objs.size (.lst xs)) { s with heap := h'.push { cls := .type "list", data := .seq its.toArray } } :=
    I1.laid (t' := s.toks) (fun _ _ e => Heap.get?_push_of_some _ e) (Nat.le_refl _) ⟨hz, its, 0, rv, hN⟩
  have hfr : H h'.objs.size = none := I1.hok.fresh (Nat.le_refl _)
  have hts2 := TsA.keep (TK.new hfr (.lst xs)) _ _ hts
  have er := (each_of enc hts2 rv).mono (R' := fun v b => ∃ as, Reads (h'.push { cls := .type "list", data := .seq its.toArray }) v (enc b) as ∧ h'.objs.size ∉ as) fun v b ⟨x, rx, tx⟩ => ⟨[], Ts.reads I2 _ _ _ tx rx, fun z => nomatch z⟩
  show wpAny _ _ (holding _ _ >>= _) _ _ _
  refine wpAny_bind (wpAny_holding ?_)
  refine PySem.W.list_sort_data (s := { s with heap := h'.push { cls := .type "list", data := .seq its.toArray } }) (R := fun u b => ∃ x, RelV x u ∧ Ts H x (enc b)) hN (each_of enc hts rv) er hal hso (by rw [← hlen]; exact hzi)
    (fun b hb => by have := hdp b hb; show X.A.units + 1 + 1 + (enc b).depth < cLine; omega) fun out hol heach => ?_
  obtain ⟨ys, ry, ty⟩ := of_each enc heach
  obtain ⟨c, hc'⟩ := PyProof.Rows.sortedHeap_at (vs := its) (out := out.toArray) hN
  refine wpAny_pure ⟨_, rfl, ?_⟩
  have hlo : ys.length ≤ sizeLine := by have := ry.length; omega
  refine ⟨.ref h'.objs.size, upd H h'.objs.size (.lst ys), I1.laid (t' := s.toks) (fun b ob e => ?_) (Nat.le_refl _) ⟨hlo, out, c, ry, hc'⟩, rfl, q _ ys hfr ty⟩
  have e2 := Heap.get?_push_of_some ({ cls := .type "list", data := .seq its.toArray } : Obj) e
  exact (PyProof.Rows.sortedHeap_old (Nat.ne_of_lt (Heap.lt_size e)) (Heap.lt_size e2)).trans e2
end
end K16

set_option Elab.async false
set_option linter.all false
set_option maxRecDepth 100000
/-! Rules: xs.extend(tuple), tuple[::-1], dict(d) with tuple keys, dicts keyed by nested tuples. -/
namespace K16
open PySem PySem.Spec PyProof.Rows L2

/-! ### xs.extend(t) -/
theorem list_extend_tup (l : Addr) (items : Array Value) (n : Nat) (b : Addr) (items2 : Array Value) (hlong : ¬(!items.isEmpty && Builtin.List.listTooLong (items.size + items2.size)) = true) (h1 : items.size ≤ sizeLine) (h2 : items.size + items2.size ≤ sizeLine + 1) :
    Meets (Builtin.«list.extend» ⟨[.ref l, .ref b], []⟩) (fun _ R s => s.heap.get? l = some { cls := .type "list", dict := none, data := .seq items n, slots := #[] } ∧ IsTup s.heap b items2 ∧
      R (.ok (.ret Value.none)) { s with heap := s.heap.update l (Obj.mapSeq fun x => x ++ items2), toks := s.toks }) :=
  .of_wp fun prog w A R s h => by
    obtain ⟨hl, ⟨o, ho, hc, m, hd⟩, hR⟩ := h
    show wpAny _ _ (Builtin.List.listExtendWith (.ref l) (.ref b) .none) _ _ s
    unfold Builtin.List.listExtendWith
    refine wpAny_bind (wpAny_typeOf ⟨o, ho, hc⟩ ?_)
    have e1 : (Builtin.List.listSameRef (.ref l) (.ref b) || Value.type "tuple" == Value.type "list" || Value.type "tuple" == Value.type "tuple") = true := by simp
    simp only [e1, if_true]
    refine wpAny_bind ?_
    unfold Builtin.List.listItems
    refine wpAny_bind (wpAny_seqItems ho hd (wpAny_pure ?_))
    refine wpAny_bind ?_
    refine wpAny_bind (wpAny_seqItems hl rfl (wpAny_pure ?_))
    simp only [if_neg hlong]
    show wpAny _ _ (updateSeq l (· ++ items2) >>= fun _ => ret .none) _ _ s
    refine wpAny_bind (wpAny_updateSeq hl rfl ?_ h1 (by rw [Array.size_append]; exact h2))
    exact wpAny_pure ⟨_, rfl, hR⟩
section
variable {X : Cx}
def rExtendT : V → List V → Hp → VK → Prop := fun x vs H Q => ∃ l b xs zs, x = .ref l ∧ vs = [.ref b] ∧ H l = some (.lst xs) ∧ H b = some (.tup zs) ∧ xs.length + zs.length ≤ sizeLine ∧ Q .non (upd H l (.lst (xs ++ zs)))
theorem mt_extendT : MtM X "list.extend" rExtendT := by
  intro pins s σ H x vs v us Q I rx rv h
  obtain ⟨l, b, xs, zs, rfl, rfl, hH, hB, hz, q⟩ := h
  cases rx
  obtain ⟨u, rfl, ru⟩ := rv.one
  cases ru
  obtain ⟨z, its, n, r, hl, e⟩ := I.lstM hH
  obtain ⟨z2, its2, r2, e2⟩ := I.hok _ _ hB
  have hl2 := r2.length
  have hsz : its.toArray.size + its2.toArray.size ≤ sizeLine := by rw [List.size_toArray, List.size_toArray]; omega
  have hlong : ¬ (!its.toArray.isEmpty && Builtin.List.listTooLong (its.toArray.size + its2.toArray.size)) = true := by
    rw [notLongL hsz, Bool.and_false]
    exact Bool.false_ne_true
  refine call_meets F.slot_list_extend ⟨_, e, rfl⟩ F.entry_list_extend (F.args_list_extend_2 _ _)
    (list_extend_tup l its.toArray n b its2.toArray hlong (by rw [List.size_toArray]; omega) (by omega)) ⟨e, e2, ?_⟩
  refine ⟨.non, _, I.lset (its' := its ++ its2) hH e (by simp) (r.append r2) ?_, rfl, q⟩
  rw [List.length_append]
  omega
end

/-! ### t[::-1] of a tuple -/
theorem slice_rev_run {n : Nat} : Builtin.Slice.sliceAdjust none none (-1) (n : Int) = ((n : Int) - 1, -1) := by
  unfold Builtin.Slice.sliceAdjust
  simp
theorem places_rev (n : Nat) : Builtin.Slice.slicePlaces ((n : Int) - 1) (-1) (-1) = n := by
  unfold Builtin.Slice.slicePlaces
  rw [if_neg (by decide)]
  by_cases h : (n : Int) - 1 > -1
  · rw [if_pos h]
    have : ((n : Int) - 1 - -1 - 1) / (- (-1)) + 1 = (n : Int) := by
      have e : (- (-1 : Int)) = 1 := by decide
      rw [e, Int.ediv_one]; omega
    rw [this]; simp
  · rw [if_neg h]
    have : n = 0 := by omega
    subst this; rfl
theorem filterMap_same {α β : Type} {f g : α → Option β} : ∀ {l : List α}, (∀ a ∈ l, f a = g a) → l.filterMap f = l.filterMap g
  | [], _ => rfl
  | a :: l, h => by
    rw [List.filterMap_cons, List.filterMap_cons, h a List.mem_cons_self, filterMap_same fun b hb => h b (List.mem_cons_of_mem _ hb)]
theorem pick_rev (xs : Array Value) : ((List.range xs.size).filterMap fun (m : Nat) => xs[(((xs.size : Nat) : Int) - 1 + (m : Int) * (-1)).toNat]?).toArray = xs.toList.reverse.toArray := by
  congr 1
  have h1 : ∀ m ∈ List.range xs.size, xs[(((xs.size : Nat) : Int) - 1 + (m : Int) * (-1)).toNat]? = xs.toList.reverse[m]? := by
    intro m hm
    have hm' := List.mem_range.mp hm
    have e : (((xs.size : Nat) : Int) - 1 + (m : Int) * (-1)).toNat = xs.size - 1 - m := by omega
    rw [e, List.getElem?_reverse (by rw [Array.length_toList]; exact hm'), Array.length_toList, Array.getElem?_toList]
  have h2 : (List.range xs.size).filterMap (fun (m : Nat) => xs[(((xs.size : Nat) : Int) - 1 + (m : Int) * (-1)).toNat]?) = (List.range xs.size).filterMap fun m => xs.toList.reverse[m]? := by
    exact filterMap_same h1
  rw [h2]
  have h3 : ∀ (l : List Value), (List.range l.length).filterMap (fun m => l[m]?) = l := by
    intro l
    induction l with
    | nil => rfl
    | cons a l ih =>
      rw [List.length_cons, List.range_succ_eq_map, List.filterMap_cons]
      show a :: _ = _
      rw [List.filterMap_map]
      congr 1
  have e : xs.size = xs.toList.reverse.length := by simp
  rw [e]
  exact h3 _
section
variable {prog : Program} {w : World} {A : Around} {E : Value → Shared → Prop} {s : Shared}
theorem getItem_tuple_rev {t sl : Addr} {items : Array Value} {vl vu vs : Value} {Q : Value → Shared → Prop} (ht : IsTup s.heap t items) (hs : s.heap.IsSliceOf sl vl vu vs) (pl : IsPart vl none) (pu : IsPart vu none) (ps : IsPart vs (some (-1)))
    (h : Q (.ref s.heap.objs.size) { s with heap := s.heap.push { cls := .type "tuple", data := .seq items.toList.reverse.toArray } }) (hsz : items.size ≤ sizeLine) : wpAny (model prog w) A (getItem (.ref t) (.ref sl)) Q E s := by
  have htake : sizeOk (.seq items.toList.reverse.toArray) := by
    show items.toList.reverse.toArray.size ≤ sizeLine
    simpa using hsz
  obtain ⟨os, hos, hcs, hds⟩ := id hs
  have hTs : s.TypeIs (.ref sl) "slice" := ⟨os, hos, hcs⟩
  unfold getItem
  try with_reducible refine wpAny_holding ?_
  first | refine wpAny_bind (wpAny_pure ?_) | skip
  refine wpAny_bind (wpAny_sequenceKey ht.typeIs (by decide) ?_)
  refine wpAny_bind (wpAny_callSpecial?_slot (name := Str.ofString "__getitem__") ht.typeIs PyProof.Rows.slot_tuple_getitem
    (wpAny_call_entry PyProof.Rows.slot_tuple_getitem ht.typeIs entry_tuple_getitem ?_ (args_tuple_getitem _ _)))
  show wpAny _ _ (Builtin.Tuple.tupleItemsOf (.ref t) >>= _) _ _ s
  refine wpAny_bind (tupleItemsOf_ ht ?_)
  refine wpAny_bind (wpAny_typeOf hTs ?_)
  rw [if_pos (by decide)]
  have hap : ∀ {Q : Int × Int × Nat → Shared → Prop}, Q ((items.size : Int) - 1, -1, items.size) s → wpAny (model prog w) A.in1 (Builtin.Slice.sliceApplied (.ref sl) (pure (items.size : Int))) Q (fun e s' => E e s') s := by
    intro Q hq
    unfold Builtin.Slice.sliceApplied Builtin.Slice.sliceFields
    refine wpAny_bind (wpAny_bind (wpAny_field hos hds (x := vl) rfl (wpAny_bind (wpAny_field hos hds (x := vu) rfl (wpAny_bind (wpAny_field hos hds (x := vs) rfl (wpAny_pure ?_)))))))
    refine wpAny_bind (HT.slicePart_ ps ?_)
    show wpAny _ _ (if ((-1 : Int) == 0) = true then _ else _) _ _ s
    rw [if_neg (by decide)]
    refine wpAny_bind (HT.slicePart_ pl (wpAny_bind (HT.slicePart_ pu (wpAny_bind (wpAny_pure ?_)))))
    show wpAny _ _ (match Builtin.Slice.sliceAdjust none none (-1) (items.size : Int) with | (lo, hi) => pure (lo, (-1 : Int), Builtin.Slice.slicePlaces lo hi (-1))) _ _ s
    rw [slice_rev_run]
    show wpAny _ _ (pure ((items.size : Int) - 1, (-1 : Int), Builtin.Slice.slicePlaces ((items.size : Int) - 1) (-1) (-1))) _ _ s
    rw [places_rev]
    exact wpAny_pure hq
  refine wpAny_bind (hap ?_)
  have hno : ¬ ((((items.size : Int) - 1) == 0 && (-1 : Int) == 1 && items.size == items.size) = true) := by
    intro q
    rw [Bool.and_eq_true, Bool.and_eq_true] at q
    exact absurd q.1.2 (by decide)
  show wpAny _ _ (if (((items.size : Int) - 1) == 0 && (-1 : Int) == 1 && items.size == items.size) = true then _ else _) _ _ s
  rw [if_neg hno, pick_rev]
  first
    | exact wpAny_bind (m := Builtin.Tuple.tupleExact _) (wpAny_newObj_type (wpAny_pure ⟨_, rfl, wpAny_pure h⟩) htake)
    | exact wpAny_bind (m := Builtin.Tuple.tupleExact _) (wpAny_newObj_type (wpAny_bind (wpAny_pure (wpAny_pure ⟨_, rfl, wpAny_pure h⟩))) htake)
    | exact wpAny_bind (wpAny_bind (m := Builtin.Tuple.tupleExact _) (wpAny_newObj_type (wpAny_pure (wpAny_pure ⟨_, rfl, wpAny_pure h⟩)) htake))
    | exact wpAny_bind (wpAny_bind (m := Builtin.Tuple.tupleExact _) (wpAny_newObj_type (wpAny_pure ⟨_, rfl, wpAny_pure h⟩) htake))
end
section
variable {X : Cx}
def tRevT (te : TE) : TE := fun σ H Q => te σ H fun x H1 => ∃ a xs, x = .ref a ∧ H1 a = some (.tup xs) ∧ ∀ p, H1 p = none → Q (.ref p) (upd H1 p (.tup xs.reverse))
theorem pe_revT {e : Expr} {te : TE} {k : Nat} {p1 p2 p3 pos : Pos} (he : PE X e te) : PE X (.Subscript e (.Slice none none (some (.UnaryOp .USub (.Constant (.int 1) k p1) p2)) p3) pos) (tRevT te) := by
  constructor
  intro pins s σ H Q I h
  refine Subscript_ (thn (he.run pins s σ H _ I h) ?_)
  rintro v s1 ⟨x, H1, I1, r1, a, xs, ex, hx, q⟩
  subst ex
  cases r1
  have hst : PO X (some (.UnaryOp .USub (.Constant (.int 1) k p1) p2)) (tPart (tUn (rU fun i => .int (-i)) (tC (.int 1)))) := po_some (pe_un un_neg pe_int)
  refine wpAny_Slice (thn (po_none.run pins s1 σ H1 (fun o H2 => o = none ∧ H2 = H1) I1 ⟨rfl, rfl⟩) ?_)
  rintro vl s2 ⟨l, H2, I2, pl, el, e2⟩
  subst el e2
  refine thn (po_none.run pins s2 σ H2 (fun o H3 => o = none ∧ H3 = H2) I2 ⟨rfl, rfl⟩) ?_
  rintro vu s3 ⟨u, H3, I3, pu, eu, e3⟩
  subst eu e3
  refine thn (hst.run pins s3 σ H3 (fun o H4 => o = some (-1) ∧ H4 = H3) I3 ⟨1, rfl, -1, rfl, rfl, rfl⟩) ?_
  rintro vs s4 ⟨o, H4, I4, ps, eo, e4⟩
  subst eo e4
  have I5 : Inv X pins σ H4 { s4 with heap := s4.heap.push { cls := .type "slice", data := .fields #[vl, vu, vs] } } := I4.kept (t' := s4.toks) fun b ob q => Heap.get?_push_of_some _ q
  obtain ⟨hz, its, r, ht⟩ := I5.hok _ _ hx
  have hlen := r.length
  show wpAny (model X.prog X.w) X.A (subscriptTail e (.Slice none none (some (.UnaryOp .USub (.Constant (.int 1) k p1) p2)) p3) (.ref a) (.ref s4.heap.objs.size)) (EP X pins σ Q) X.xe { s4 with heap := s4.heap.push { cls := .type "slice", data := .fields #[vl, vu, vs] } }
  refine tail_any (ops := [.ref a, .ref s4.heap.objs.size]) ht.typeIs (PyProof.Rows.slot_tuple_getitem.lookup) ?_ (by with_unfolding_all rfl)
  refine getItem_tuple_rev ht (Heap.IsSliceOf.new _ vl vu vs) pl pu ps ?_ (by rw [List.size_toArray]; omega)
  refine ⟨.ref _, _, I5.laid (t' := s4.toks) (o := .tup xs.reverse) (fun b ob q => Heap.get?_push_of_some _ q) (Nat.le_refl _) ?_, rfl, q _ (I5.hok.fresh (Nat.le_refl _))⟩
  exact ⟨by rw [List.length_reverse]; exact hz, its.reverse, r.reverse, ⟨_, Heap.get?_push_size _ rfl, rfl, _, rfl⟩⟩
end
end K16

set_option Elab.async false
set_option linter.all false
set_option maxRecDepth 100000
/-! Rules: dict(d) with tuple keys; dicts keyed by nested tuples. -/
namespace K16
open PySem PySem.Spec PyProof.Rows L2

section
variable {prog : Program} {w : World} {K : Type} [DecidableEq K] {knd : HeapKind prog w K} {A : Around} {E : Value → Shared → Prop} {s : Shared}
/-- dict(d), the keys tuples that hash apart -/
theorem call_dictH (st : knd.Stays) {o : Addr} {more : List (K × Addr × Value)} {Q : Value → Shared → Prop} (hu : knd.room A.in1.in1) (hoS : (o == sysModules) = false) (ho : s.heap.DictOfH knd o more) (hap : (more.map fun x => knd.hash x.1).Nodup) (hsz : more.length ≤ sizeLine)
    (h : ∀ h', h'.DictOfH knd s.heap.objs.size more → (∀ b ob, s.heap.get? b = some ob → h'.get? b = some ob) → Q (.ref s.heap.objs.size) { s with heap := h' }) :
    wpAny (model prog w) A (call (.type "dict") [.ref o]) Q E s := by
  refine callType_codes (Q₁ := fun obj s1 => obj = .ref s.heap.objs.size ∧ s1 = { s with heap := s.heap.push { cls := .type "dict", data := .dict #[] } }) F.kt_called_dict (F.kt_typeCall_dict_1 _) F.entry_dict_init (kt_code_dict_new _ ⟨rfl, rfl⟩) ?_
  rintro obj s1 ⟨rfl, rfl⟩
  have hnew : (s.heap.push { cls := .type "dict", data := .dict #[] }).DictOfH knd s.heap.objs.size [] := Heap.DictOfH.new s.heap
  have hk : ∀ b ob, s.heap.get? b = some ob → (s.heap.push { cls := .type "dict", data := .dict #[] }).get? b = some ob := fun b ob e => Heap.get?_push_of_some _ e
  have ho' : (s.heap.push { cls := .type "dict", data := .dict #[] }).DictOfH knd o more := by
    obtain ⟨oo, es, ep, e1, e2, e3, e4, e5, e6⟩ := ho
    exact ⟨oo, es, ep, hk _ _ e1, e2, e3, e4, fun x hx => st.stays (fun b ob vs n e _ => hk b ob e) (e5 x hx), e6⟩
  have hn : (more.map (·.1)).Nodup := ho.nodup
  have hdo : s.heap.objs.size ≠ o := by
    obtain ⟨_, _, _, hg, _⟩ := ho
    exact fun e => absurd (Heap.lt_size hg) (by rw [e]; exact Nat.lt_irrefl _)
  refine ⟨hnew.typeIs, F.args_dict_init_2 _ _, ?_⟩
  unfold Builtin.«dict.__init__»
  refine wpAny_bind ?_
  unfold Builtin.Dict.selfAndRest
  refine wpAny_bind (wpAny_notOrdered_dict hnew.typeIs ?_)
  show wpAny _ _ (pure (s.heap.objs.size, [Value.ref o])) _ _ _
  refine wpAny_pure ?_
  show wpAny _ _ (Builtin.Dict.updateFrom "dict.__init__" s.heap.objs.size (.ref o) [] .none) _ _ _
  have hty : ∀ x ∈ more, Shared.TypeIs { s with heap := s.heap.push { cls := .type "dict", data := .dict #[] } } (.ref x.2.1) "tuple" := by
    obtain ⟨oo, es, ep, e1, e2, e3, e4, e5, e6⟩ := ho'
    intro x hx
    exact st.tuple (s := { s with heap := s.heap.push { cls := .type "dict", data := .dict #[] } }) (e5 x hx)
  refine updateFrom_dictH (s := { s with heap := s.heap.push { cls := .type "dict", data := .dict #[] } }) .none hu hdo hoS hnew ho' (.inr ⟨hty, hap⟩) (by simpa using hsz) fun h' hd' _ hs' => ?_
  rw [storedAllH_nil_of_nodup more hn] at hd'
  refine ⟨rfl, h h' hd' fun b ob e => ?_⟩
  exact (hs'.2 b (Nat.ne_of_lt (Heap.lt_size e))).trans (hk b ob e)
end

/-! ### places as keys -/
def pk (p : Pl) : List Key := [Sum.inl (p.1 : Int), Sum.inl (p.2 : Int)]
theorem pk_inj {p q : Pl} (h : pk p = pk q) : p = q := by
  obtain ⟨a, b⟩ := p
  obtain ⟨c, d⟩ := q
  unfold pk at h
  injection h with h1 h2
  injection h2 with h2 _
  have e1 : (a : Int) = (c : Int) := Sum.inl.inj h1
  have e2 : (b : Int) = (d : Int) := Sum.inl.inj h2
  have e3 : a = c := by omega
  have e4 : b = d := by omega
  rw [e3, e4]
def plHash (p : Pl) : Int := reduceHash (Builtin.Tuple.tupleHashOf [hashInt (p.1 : Int), hashInt (p.2 : Int)])
theorem pk_hash (P : Program) (w : World) (p : Pl) : (tupleKind (mixKind P w)).hash (pk p) = plHash p := rfl
/-- all places that can be drawn -/
def spots : List Nat := [0, 1, 2, 3, 40, 199, 999999999999999999, 5, 6, 1000000, 1000000000]
def allPl : List Pl := spots.flatMap fun i => [(i, 0), (i, 1), (i, 2), (i, 3)]
theorem allPl_apart : (allPl.map plHash).Nodup := by decide +kernel
theorem allPl_nodup : allPl.Nodup := by decide +kernel
theorem nodup_map_inj {α β : Type} (f : α → β) : ∀ {l : List α}, (l.map f).Nodup → ∀ a ∈ l, ∀ b ∈ l, f a = f b → a = b
  | c :: l, h, a, ha, b, hb, e => by
    rw [List.map_cons, List.nodup_cons] at h
    rcases List.mem_cons.mp ha with ha | ha <;> rcases List.mem_cons.mp hb with hb | hb
    · rw [ha, hb]
    · exact absurd (List.mem_map.mpr ⟨b, hb, by rw [← e, ha]⟩) h.1
    · exact absurd (List.mem_map.mpr ⟨a, ha, by rw [e, hb]⟩) h.1
    · exact nodup_map_inj f h.2 a ha b hb e
theorem nodup_map_of {α β : Type} (f : α → β) : ∀ {l : List α}, l.Nodup → (∀ a ∈ l, ∀ b ∈ l, f a = f b → a = b) → (l.map f).Nodup
  | [], _, _ => List.nodup_nil
  | c :: l, h, hi => by
    rw [List.map_cons, List.nodup_cons]
    refine ⟨fun hm => ?_, nodup_map_of f (List.nodup_cons.mp h).2 fun a ha b hb => hi a (List.mem_cons_of_mem _ ha) b (List.mem_cons_of_mem _ hb)⟩
    obtain ⟨b, hb, e⟩ := List.mem_map.mp hm
    have := hi b (List.mem_cons_of_mem _ hb) c List.mem_cons_self e
    subst this
    exact (List.nodup_cons.mp h).1 hb
abbrev PV := List (Pl × V)
def pkv (x : Pl × V) : List Key × V := (pk x.1, x.2)
/-- keys of places -/
structure PKeys (ps : PV) : Prop where
  nd : (ps.map (·.1)).Nodup
  ok : ∀ x ∈ ps, x.1 ∈ allPl
theorem PKeys.len {ps : PV} (h : PKeys ps) : ps.length ≤ 44 := by
  have h1 := le_of_rel (· = ·) (l := ps.map (·.1)) (k := allPl) h.nd (fun a ha => by
    obtain ⟨x, hx, rfl⟩ := List.mem_map.mp ha
    exact ⟨_, h.ok x hx, rfl⟩) (fun a b c e1 e2 => e1.trans e2.symm)
  have h2 : allPl.length = 44 := by decide +kernel
  rw [List.length_map] at h1
  omega
def putP (ps : PV) (p : Pl) (v : V) : PV := if p ∈ ps.map (·.1) then ps.map (fun x => if x.1 = p then (x.1, v) else x) else ps ++ [(p, v)]
theorem putP_keys (ps : PV) (p : Pl) (v : V) (q : Pl) : q ∈ (putP ps p v).map (·.1) ↔ q ∈ ps.map (·.1) ∨ q = p := by
  unfold putP
  split
  · rename_i h
    have e : (ps.map (fun x => if x.1 = p then (x.1, v) else x)).map (·.1) = ps.map (·.1) := by
      rw [List.map_map]
      refine List.map_congr_left fun x _ => ?_
      show (if x.1 = p then (x.1, v) else x).1 = x.1
      split <;> rfl
    rw [e]
    exact ⟨.inl, fun h' => h'.elim id fun e => e ▸ h⟩
  · simp
theorem putP_nd {ps : PV} (h : (ps.map (·.1)).Nodup) (p : Pl) (v : V) : ((putP ps p v).map (·.1)).Nodup := by
  unfold putP
  split
  · have e : (ps.map (fun x => if x.1 = p then (x.1, v) else x)).map (·.1) = ps.map (·.1) := by
      rw [List.map_map]
      refine List.map_congr_left fun x _ => ?_
      show (if x.1 = p then (x.1, v) else x).1 = x.1
      split <;> rfl
    rw [e]; exact h
  · rename_i hp
    rw [List.map_append]
    exact nodup_snoc h hp
theorem PKeys.put {ps : PV} (h : PKeys ps) {p : Pl} (hp : p ∈ allPl) (v : V) : PKeys (putP ps p v) := by
  refine ⟨putP_nd h.nd p v, fun x hx => ?_⟩
  rcases (putP_keys ps p v x.1).mp (List.mem_map.mpr ⟨x, hx, rfl⟩) with h1 | h1
  · obtain ⟨y, hy, e⟩ := List.mem_map.mp h1
    rw [← e]; exact h.ok y hy
  · rw [h1]; exact hp
theorem any_pk (ps : PV) (p : Pl) : ((ps.map pkv).any fun kv => decide (kv.1 = pk p)) = decide (p ∈ ps.map (·.1)) := by
  rw [Bool.eq_iff_iff, List.any_eq_true, decide_eq_true_eq]
  constructor
  · rintro ⟨kv, hkv, e⟩
    obtain ⟨x, hx, rfl⟩ := List.mem_map.mp hkv
    exact List.mem_map.mpr ⟨x, hx, pk_inj (of_decide_eq_true e)⟩
  · intro h
    obtain ⟨x, hx, e⟩ := List.mem_map.mp h
    exact ⟨pkv x, List.mem_map.mpr ⟨x, hx, rfl⟩, decide_eq_true (by show pk x.1 = pk p; rw [e])⟩
theorem putK_pk (ps : PV) (p : Pl) (v : V) : putK (ps.map pkv) (pk p) v = (putP ps p v).map pkv := by
  unfold putK putP
  rw [any_pk]
  by_cases h : p ∈ ps.map (·.1)
  · rw [if_pos (decide_eq_true h), if_pos h, List.map_map, List.map_map]
    refine List.map_congr_left fun x _ => ?_
    show (if pk x.1 = pk p then (pk x.1, v) else pkv x) = pkv (if x.1 = p then (x.1, v) else x)
    by_cases e : x.1 = p
    · rw [if_pos e, if_pos (show pk x.1 = pk p by rw [e])]; rfl
    · rw [if_neg e, if_neg (show ¬ pk x.1 = pk p from fun h => e (pk_inj h))]
  · rw [if_neg (by simpa using h), if_neg h, List.map_append]; rfl
/-- the answers that a dict of places tells -/
def Tells (ps : PV) (k : Pl → Option Nat) : Prop := ∀ p, valV (ps.map pkv) (pk p) = (k p).map fun d => V.int (d : Int)
theorem Tells.put {ps : PV} {k : Pl → Option Nat} (h : Tells ps k) (p : Pl) (d : Nat) : Tells (putP ps p (.int (d : Int))) (kst k p d) := by
  intro q
  rw [← putK_pk, valV_put, h q]
  unfold kst
  by_cases e : q = p
  · rw [if_pos (show pk q = pk p by rw [e]), if_pos e]; rfl
  · rw [if_neg (fun h => e (pk_inj h)), if_neg e]
theorem Tells.nil : Tells [] fun _ => none := fun p => rfl
/-- a dict of known answers stands at a -/
def KnAt (H : Hp) (a : Addr) (k : Pl → Option Nat) : Prop := ∃ ps, H a = some (.dT (ps.map pkv)) ∧ PKeys ps ∧ Tells ps k
theorem KnAt.same {H H' : Hp} {a : Addr} {k : Pl → Option Nat} (h : KnAt H a k) (s : Same H H') : KnAt H' a k := let ⟨ps, h1, h2⟩ := h; ⟨ps, s _ _ h1, h2⟩
theorem KnAt.nil {H : Hp} {a : Addr} (h : H a = some (.dT [])) : KnAt H a fun _ => none := ⟨[], h, ⟨List.nodup_nil, fun _ h => nomatch h⟩, Tells.nil⟩
theorem hash_list (P : Program) (w : World) : ∀ {xs : List (List Key × Addr × Value)} {qs : List Pl}, xs.map (·.1) = qs.map pk → (xs.map fun x => (tupleKind (mixKind P w)).hash x.1) = qs.map plHash
  | [], [], _ => rfl
  | [], _ :: _, h => by simp at h
  | _ :: _, [], h => by simp at h
  | x :: xs, q :: qs, h => by
    rw [List.map_cons, List.map_cons] at h
    injection h with h1 h2
    have h1' : x.1 = pk q := h1
    rw [List.map_cons, List.map_cons, hash_list P w h2, h1', pk_hash]
theorem hash_nd (P : Program) (w : World) {ps : PV} (hk : PKeys ps) {xs : List (List Key × Addr × Value)} (hkeys : xs.map (·.1) = (ps.map (·.1)).map pk) : (xs.map fun x => (tupleKind (mixKind P w)).hash x.1).Nodup := by
  rw [hash_list P w hkeys]
  refine nodup_map_of plHash hk.nd fun p hp p2 hp2 e => ?_
  obtain ⟨x, hx, rfl⟩ := List.mem_map.mp hp
  obtain ⟨y, hy, rfl⟩ := List.mem_map.mp hp2
  exact nodup_map_inj plHash allPl_apart _ (hk.ok x hx) _ (hk.ok y hy) e
section
variable {X : Cx}
def rCopyT : List V → Hp → VK → Prop := fun xs H Q => ∃ (a : Addr) (ps : PV), xs = [.ref a] ∧ H a = some (.dT (ps.map pkv)) ∧ PKeys ps ∧ ∀ p, H p = none → Q (.ref p) (upd H p (.dT (ps.map pkv)))
theorem cr_copyT (hu : X.A.units + 64 < cLine) : CallR X (.type "dict") rCopyT := by
  intro pins s σ H xs us Q I r h
  obtain ⟨a, ps, rfl, hH, hk, q⟩ := h
  rw [Vals.ref1 r]
  obtain ⟨z, hd, xs, rel, dd⟩ := dt_of I.hok hH
  have hkeys : xs.map (·.1) = (ps.map (·.1)).map pk := by
    have : ∀ {ks : List (List Key × V)} {ys : List (List Key × Addr × Value)}, KT H ks ys → ys.map (·.1) = ks.map (·.1) := by
      intro ks ys h
      induction h with
      | nil => rfl
      | cons a _ ih => rw [List.map_cons, List.map_cons, ih, a.1]
    rw [this rel, List.map_map, List.map_map]; rfl
  have hroom : (tupleKind (mixKind X.prog X.w)).room X.A.in1.in1 := tupleKind_room_in1 (A := X.A.in1) (by show X.A.units + 1 + 1 < cLine; omega)
  have hhash := hash_nd X.prog X.w hk hkeys
  have hfr : H s.heap.objs.size = none := I.hok.fresh (Nat.le_refl _)
  have hsys : (s.heap.objs.size == sysModules) = false := beq_eq_false_iff_ne.mpr (Ne.symm (Nat.ne_of_lt I.big))
  refine call_dictH (knd := tupleKind (mixKind X.prog X.w)) tupleKind_stays hroom hd dd hhash (by rw [← Paired.length rel]; exact z) fun h' dd' kept => ?_
  obtain ⟨o, es, ep, e1, e2, e3, e4, _, e6⟩ := dd'
  have hob : ObjOk X.prog X.w (upd H s.heap.objs.size (.dT (ps.map pkv))) h' s.heap.objs.size (.dT (ps.map pkv)) :=
    ⟨z, hsys, xs, rel.keeps fun b ys e => by rw [upd_ne (ne_of_none e hfr)]; exact e, o, es, ep, e1, e2, e3, e4, e6⟩
  exact ⟨.ref s.heap.objs.size, _, I.laid (t' := s.toks) (o := .dT (ps.map pkv)) kept (Nat.le_refl _) hob, rfl, q _ hfr⟩
end

/-! ### dicts keyed by nested tuples, their values ints -/
abbrev NK := PySem.NestedKey
/-- the object of such a dict -/
def ndPhi (P : Program) (w : World) (a : Addr) (raw : List (NK × Addr × Value)) (h : Heap) : Prop :=
  ∃ o es ep, h.get? a = some o ∧ o.ExactDict ∧ o.data = .dict es ep ∧ es.toList = raw.map (entryOfKey (nestedKind P w)) ∧ (raw.map (·.1)).Nodup
def NDRel (H : Hp) : List (NK × Int) → List (NK × Addr × Value) → Prop := Paired fun p q => p.1 = q.1 ∧ Ts H (.ref q.2.1) q.1.data ∧ q.1.depth ≤ 8 ∧ RelV (.int p.2) q.2.2
def NDAt (P : Program) (w : World) (H : Hp) (a : Addr) (kvs : List (NK × Int)) : Prop := ∃ raw, H a = some (.ext (ndPhi P w a raw)) ∧ (a == sysModules) = false ∧ kvs.length ≤ 100000 ∧ NDRel H kvs raw
theorem NDRel.keep {H H' : Hp} (k : TK H H') : ∀ {kvs : List (NK × Int)} {raw : List (NK × Addr × Value)}, NDRel H kvs raw → NDRel H' kvs raw
  | _, _, .nil => .nil
  | _, _, .cons a t => .cons ⟨a.1, Ts.keep k _ _ a.2.1, a.2.2⟩ (NDRel.keep k t)
theorem NDAt.keep {P : Program} {w : World} {H H' : Hp} {a : Addr} {kvs : List (NK × Int)} (h : NDAt P w H a kvs) (k : TK H H') (e : H' a = H a) : NDAt P w H' a kvs :=
  let ⟨raw, h1, h2, h3, h4⟩ := h
  ⟨raw, e.trans h1, h2, h3, h4.keep k⟩
theorem ndPhi_ext {P : Program} {w : World} {a : Addr} {raw : List (NK × Addr × Value)} {h : Heap} (x : ndPhi P w a raw h) : ndPhi P w a raw h ∧ (∃ o, h.get? a = some o) ∧ ∀ h1 h2 : Heap, ndPhi P w a raw h1 → (∀ o, h1.get? a = some o → h2.get? a = some o) → ndPhi P w a raw h2 :=
  ⟨x, let ⟨o, _, _, e, _⟩ := x; ⟨o, e⟩, fun h1 h2 ⟨o, es, ep, e, r⟩ k => ⟨o, es, ep, k o e, r⟩⟩
mutual
theorem nested_of {X : Cx} {pins : List (Addr × Obj)} {σ : L2.St} {H : Hp} {s : Shared} (I : Inv X pins σ H s) : ∀ (k : NK) (v : V) (u : Value), Ts H v k.data → RelV v u → NestedIs s.heap k u
  | .none, v, u, h, r => by
    rw [NestedKey.data] at h
    exact nomatch h
  | .num i, v, u, h, r => by
    rw [NestedKey.data] at h
    cases h
    obtain ⟨t, rfl⟩ := r
    exact .int i t
  | .text x, v, u, h, r => by
    rw [NestedKey.data] at h
    cases h
    obtain ⟨t, rfl⟩ := r
    exact .text x t
  | .tup ks, v, u, h, r => by
    rw [NestedKey.data] at h
    cases h with
    | tup e t =>
      cases r
      obtain ⟨_, its, rv, o, ho, hc, n, hd⟩ := I.hok _ _ e
      exact .tup ho hc hd (nested_all I ks _ _ t rv)
theorem nested_all {X : Cx} {pins : List (Addr × Obj)} {σ : L2.St} {H : Hp} {s : Shared} (I : Inv X pins σ H s) : ∀ (ks : List NK) (vs : List V) (us : List Value), TsA H vs (NestedKey.datas ks) → Vals vs us → NestedAll s.heap ks us
  | [], vs, us, h, r => by
    rw [NestedKey.datas] at h
    cases h; cases r
    exact .nil
  | k :: ks, vs, us, h, r => by
    rw [NestedKey.datas] at h
    cases h with
    | cons a t =>
      cases r with
      | cons r1 r2 => exact .cons (nested_of I k _ _ a r1) (nested_all I ks _ _ t r2)
end
theorem NDRel.keys {H : Hp} : ∀ {kvs : List (NK × Int)} {raw : List (NK × Addr × Value)}, NDRel H kvs raw → raw.map (·.1) = kvs.map (·.1)
  | _, _, .nil => rfl
  | _, _, .cons a t => by rw [List.map_cons, List.map_cons, NDRel.keys t, a.1]
theorem NDRel.at {H : Hp} {k : NK} : ∀ {kvs : List (NK × Int)} {raw : List (NK × Addr × Value)}, NDRel H kvs raw → match kvs.find? (fun x => decide (x.1 = k)) with
    | some x => ∃ p, atKey raw k = some p ∧ RelV (.int x.2) p.2
    | none => atKey raw k = none
  | _, _, .nil => rfl
  | _, _, .cons (a := x) (b := y) a t => by
    have ih := NDRel.at (k := k) t
    unfold atKey at ih ⊢
    rw [List.find?_cons, List.find?_cons]
    by_cases e : x.1 = k
    · have e2 : y.1 = k := a.1 ▸ e
      rw [decide_eq_true e, decide_eq_true e2]
      exact ⟨y.2, rfl, a.2.2.2⟩
    · have e2 : ¬ y.1 = k := a.1 ▸ e
      rw [decide_eq_false e, decide_eq_false e2]
      exact ih
section
variable {X : Cx} {pins : List (Addr × Obj)} {σ : L2.St} {H : Hp} {s : Shared} {a b : Addr} {kvs : List (NK × Int)} {k : NK}
theorem nd_of (I : Inv X pins σ H s) (h : NDAt X.prog X.w H a kvs) : (a == sysModules) = false ∧ ∃ raw, H a = some (.ext (ndPhi X.prog X.w a raw)) ∧ NDRel H kvs raw ∧ s.heap.DictOfH (nestedKind X.prog X.w) a raw ∧ kvs.length ≤ 100000 := by
  obtain ⟨raw, h1, h2, h3, h4⟩ := h
  obtain ⟨⟨o, es, ep, e1, e2, e3, e4, e5⟩, _⟩ := I.hok _ _ h1
  refine ⟨h2, raw, h1, h4, ⟨o, es, ep, e1, e2, e3, e4, fun x hx => ?_, e5⟩, h3⟩
  have : ∀ {ks : List (NK × Int)} {ys : List (NK × Addr × Value)}, NDRel H ks ys → ∀ x ∈ ys, NestedIs s.heap x.1 (.ref x.2.1) ∧ x.1.depth ≤ 8 := by
    intro ks ys h
    induction h with
    | nil => intro x hx; exact nomatch hx
    | cons a _ ih =>
      intro x hx
      rcases List.mem_cons.mp hx with e | hx
      · subst e; exact ⟨nested_of I _ _ _ a.2.1 rfl, a.2.2.1⟩
      · exact ih x hx
  exact this h4 x hx
end
def tNNew (P : Program) (w : World) : TE := fun _ H Q => ∀ p H', H p = none → H' = upd H p (.ext (ndPhi P w p [])) → NDAt P w H' p [] → Q (.ref p) H'
def tNNot (P : Program) (w : World) (ty td : TE) : TE := fun σ H Q => ty σ H fun y H1 => td σ H1 fun x H2 => ∃ a kvs k, x = .ref a ∧ NDAt P w H2 a kvs ∧ Ts H2 y k.data ∧ (∃ b, y = .ref b) ∧ k.depth ≤ 8 ∧ Q (.bl (!decide (k ∈ kvs.map (·.1)))) H2
def tNGet (P : Program) (w : World) (td ty : TE) : TE := fun σ H Q => td σ H fun x H1 => ty σ H1 fun y H2 => ∃ a kvs k i, x = .ref a ∧ NDAt P w H2 a kvs ∧ Ts H2 y k.data ∧ (∃ b, y = .ref b) ∧ k.depth ≤ 8 ∧ kvs.find? (fun z => decide (z.1 = k)) = some (k, i) ∧ Q (.int i) H2
def sNPut (P : Program) (w : World) (td ty tv : TE) : TS := fun D σ H => tv σ H fun v H1 => td σ H1 fun x H2 => ty σ H2 fun y H3 => ∃ a kvs k i, x = .ref a ∧ v = .int i ∧ NDAt P w H3 a kvs ∧ Ts H3 y k.data ∧ (∃ b, y = .ref b) ∧ k.depth ≤ 8 ∧ k ∉ kvs.map (·.1) ∧ kvs.length < 100000 ∧
  ∀ raw', NDAt P w (upd H3 a (.ext (ndPhi P w a raw'))) a (kvs ++ [(k, i)]) → D.nx σ (upd H3 a (.ext (ndPhi P w a raw')))
section
variable {X : Cx} {o i value : Expr} {pos pos' : Pos} {td ty tv : TE}
theorem pe_nnew : PE X (.Dict [] [] pos) (tNNew X.prog X.w) := ⟨fun pins s σ H Q I h => by
  have hx : ndPhi X.prog X.w s.heap.objs.size [] (s.heap.push { cls := .type "dict", data := .dict #[] }) := ⟨_, #[], 0, Heap.get?_push_size _ rfl, ⟨rfl, rfl, rfl⟩, rfl, rfl, List.nodup_nil⟩
  refine wpAny_Dict_empty ⟨.ref s.heap.objs.size, _, I.laid (a := s.heap.objs.size) (o := .ext (ndPhi X.prog X.w s.heap.objs.size [])) (t' := s.toks) (fun _ _ q => Heap.get?_push_of_some _ q) (Nat.le_refl _) (ndPhi_ext hx), rfl, h _ _ (I.hok.fresh (Nat.le_refl _)) rfl ⟨[], upd_same, ?_, Nat.zero_le _, .nil⟩⟩
  exact beq_eq_false_iff_ne.mpr (Ne.symm (Nat.ne_of_lt I.big))⟩
theorem pc_nnot (hu : X.A.units + 64 < cLine) (hi : PE X i ty) (ho : PE X o td) : PC X .NotIn i o (tNNot X.prog X.w ty td) := by
  constructor
  intro pins s σ H Q I h
  refine thn (hi.run pins s σ H _ I h) ?_
  rintro iv s1 ⟨y, H1, I1, ry, q1⟩
  refine thn (ho.run pins s1 σ H1 _ I1 q1) ?_
  rintro u s2 ⟨x, H2, I2, rx, a, kvs, k, rfl, hnd, hts, ⟨b, rfl⟩, hdp, q2⟩
  cases rx
  cases ry
  obtain ⟨hd, raw, h1, h2, h3, h4⟩ := nd_of I2 hnd
  have hroom : (nestedKind X.prog X.w).room X.A.in1 := by show X.A.units + 1 + 8 < cLine; omega
  refine wpAny_notIn_heap (knd := nestedKind X.prog X.w) hroom ⟨nested_of I2 k _ _ hts rfl, hdp⟩ hd h3 ?_
  have hat := NDRel.at (k := k) h2
  have e : (atKey raw k).isSome = decide (k ∈ kvs.map (·.1)) := by
    cases hf : kvs.find? (fun x => decide (x.1 = k)) with
    | none =>
      rw [hf] at hat
      have hat' : atKey raw k = none := hat
      rw [hat']
      refine (decide_eq_false fun hm => ?_).symm
      obtain ⟨x, hx, e⟩ := List.mem_map.mp hm
      exact absurd (List.find?_eq_none.mp hf x hx) (by simpa using e)
    | some x =>
      rw [hf] at hat
      obtain ⟨p, hp, _⟩ : ∃ p, atKey raw k = some p ∧ RelV (.int x.2) p.2 := hat
      rw [hp]
      refine (decide_eq_true (List.mem_map.mpr ⟨x, List.mem_of_find?_eq_some hf, ?_⟩)).symm
      simpa using List.find?_some hf
  rw [e]
  refine ⟨V.bl (!decide (k ∈ kvs.map (·.1))), H2, I2.tok _, ?_, q2⟩
  show Value.bool _ = Value.bool _
  rfl
theorem pe_nget (hu : X.A.units + 64 < cLine) (ho : PE X o td) (hi : PE X i ty) (hs : NoSl i) : PE X (.Subscript o i pos) (tNGet X.prog X.w td ty) := by
  constructor
  intro pins s σ H Q I h
  refine subD_of PySem.F.slot_dict_getitem.lookup hs (thn (ho.run pins s σ H _ I h) ?_)
  rintro u s1 ⟨x, H1, I1, rx, q1⟩
  refine thn (hi.run pins s1 σ H1 _ I1 q1) ?_
  rintro iv s2 ⟨y, H2, I2, ry, a, kvs, k, i, rfl, hnd, hts, ⟨b, rfl⟩, hdp, hf, q2⟩
  cases rx
  cases ry
  obtain ⟨hd, raw, h1, h2, h3, h4⟩ := nd_of I2 hnd
  have hroom : (nestedKind X.prog X.w).room X.A.in1 := by show X.A.units + 1 + 8 < cLine; omega
  have hat := NDRel.at (k := k) h2
  rw [hf] at hat
  obtain ⟨p, hp, hr⟩ : ∃ p, atKey raw k = some p ∧ RelV (.int i) p.2 := hat
  refine ⟨h3.typeIs, wpAny_getItem_heap (knd := nestedKind X.prog X.w) hroom ⟨nested_of I2 k _ _ hts rfl, hdp⟩ h3 hp ?_⟩
  exact ⟨_, H2, I2.tok _, hr, q2⟩
theorem ps_nput (hu : X.A.units + 64 < cLine) (ho : PE X o td) (hi : PE X i ty) (hv : PE X value tv) (hs : swapsWith value (some (.Subscript o i pos')) pos.line X.env = pure false) :
    PS X (.Assign [.Subscript o i pos'] value pos) (sNPut X.prog X.w td ty tv) := by
  constructor
  intro pins s σ H D I h
  refine wpAny_Assign_Subscript (thn (hv.run pins s σ H _ I h) ?_) hs
  rintro r s1 ⟨v, H1, I1, rv, q1⟩
  refine thn (ho.run pins s1 σ H1 _ I1 q1) ?_
  rintro u s2 ⟨x, H2, I2, rx, q2⟩
  refine thn (hi.run pins s2 σ H2 _ I2 q2) ?_
  rintro iv s3 ⟨y, H3, I3, ry, a, kvs, k, i, rfl, rfl, hnd, hts, ⟨b, rfl⟩, hdp, hnew, hlen, q3⟩
  cases rx
  cases ry
  obtain ⟨hd, raw, h1, h2, h3, h4⟩ := nd_of I3 hnd
  have hroom : (nestedKind X.prog X.w).room X.A.in1 := by show X.A.units + 1 + 8 < cLine; omega
  have hlr := Paired.length h2
  have hnone : atKey raw k = none := by
    have hat := NDRel.at (k := k) h2
    have hf : kvs.find? (fun x => decide (x.1 = k)) = none := List.find?_eq_none.mpr fun x hx => by
      simp; intro e; exact hnew (List.mem_map.mpr ⟨x, hx, e⟩)
    rw [hf] at hat
    exact hat
  refine wpAny_setItem_heap (knd := nestedKind X.prog X.w) (hsz := by rw [← hlr]; exact Nat.le_trans h4 (by decide)) hroom ⟨nested_of I3 k _ _ hts rfl, hdp⟩ h3 fun h' dd' hs' => ?_
  rw [storedH_new hnone] at dd'
  obtain ⟨q, es, ep, e1, e2, e3, e4, _, e6⟩ := dd'
  have htk : TK H3 (upd H3 a (.ext (ndPhi X.prog X.w a (raw ++ [(k, b, r)])))) := TK.ext h1 _
  refine ⟨σ, _, d_write (ob := .ext (ndPhi X.prog X.w a (raw ++ [(k, b, r)]))) I3 (by rw [h1]; exact True.intro) hs' ⟨q, e1⟩ (ndPhi_ext ⟨q, es, ep, e1, e2, e3, e4, e6⟩), q3 _ ⟨_, upd_same, hd, by rw [List.length_append]; exact hlen, ?_⟩⟩
  have app : ∀ {ks : List (NK × Int)} {ys : List (NK × Addr × Value)}, NDRel H3 ks ys → NDRel (upd H3 a (.ext (ndPhi X.prog X.w a (raw ++ [(k, b, r)])))) (ks ++ [(k, i)]) (ys ++ [(k, b, r)]) := by
    intro ks ys h
    induction h with
    | nil => exact .cons ⟨rfl, Ts.keep htk _ _ hts, hdp, rv⟩ .nil
    | cons a _ ih => exact .cons ⟨a.1, Ts.keep htk _ _ a.2.1, a.2.2⟩ ih
  exact app h2
end
end K16

set_option Elab.async false
set_option linter.all false
set_option maxRecDepth 100000
/-! Rule: for i, x in enumerate(t), t a tuple. -/
namespace K16
open PySem PySem.Spec PyProof.Rows L2

set_option maxHeartbeats 1000000 in
theorem enum_newT (t : Addr) (items : Array Value) : Meets (Builtin.«enumerate.__new__» ⟨[.type "enumerate", .ref t], []⟩) (fun _ R s => s.heap.IsTuple t items ∧
      R (.ok (.ret (.ref (s.heap.push { cls := .type "tuple_iterator", data := .fields #[.ref t, .int 0 0] }).objs.size)))
        { s with heap := (s.heap.push { cls := .type "tuple_iterator", data := .fields #[.ref t, .int 0 0] }).push { cls := .type "enumerate", data := .fields #[.none, .bool false, .ref s.heap.objs.size, rawInt 0, .none, .none] } }) :=
  .of_wp fun prog w A R s h => by
    obtain ⟨hp, g, d, tk, os⟩ := s
    obtain ⟨h1, h⟩ := h
    have hsub := sub_enumerate
    have q1 : ∀ {A' : Around} {E : Value → Shared → Prop} {Q : Value → Shared → Prop}, Q (.ref hp.objs.size) ⟨hp.push { cls := .type "tuple_iterator", data := .fields #[.ref t, .int 0 0] }, g, d, tk, os⟩ → wpAny (model prog w) A' (pyIter (.ref t)) Q E ⟨hp, g, d, tk, os⟩ :=
      fun q => (begins_tuple t items).iter prog w _ _ ⟨hp, g, d, tk, os⟩ _ h1 q
    wp_walk using q1
    refine wpAny_stack_any fun st => wpAny_pure ?_
    split
    · rename_i c _ _ _ _ _
      cases (c == Value.type "enumerate")
      · wp_walk using q1
        exact ⟨_, rfl, h⟩
      · wp_walk using q1
        exact ⟨_, rfl, h⟩
    · wp_walk using q1
      exact ⟨_, rfl, h⟩
theorem call_enumT {prog : Program} {w : World} {A : Around} {E : Value → Shared → Prop} {s : Shared} {t : Addr} {items : Array Value} {Q : Value → Shared → Prop} (hT : s.heap.IsTuple t items)
    (h : ∀ h', IsEnum h' (s.heap.objs.size + 1) s.heap.objs.size 0 .none → h'.IsTupleIter s.heap.objs.size t 0 → (∀ b o, s.heap.get? b = some o → h'.get? b = some o) → Q (.ref (s.heap.objs.size + 1)) { s with heap := h' }) :
    wpAny (model prog w) A (call (.type "enumerate") [.ref t]) Q E s := by
  refine callType_new F.called_enumerate (by decide) (F.typeCall_enumerate_1 _) (F.newCall_enumerate_1 _) (fun obj => F.args_object_init_2 obj _) F.entry_enumerate_new (enum_newT t items) ⟨hT, ?_⟩
  have hz : (s.heap.push { cls := .type "tuple_iterator", data := .fields #[.ref t, .int 0 0] }).objs.size = s.heap.objs.size + 1 := Heap.size_push ..
  show _ ∧ _
  rw [hz]
  have he : IsEnum ((s.heap.push { cls := .type "tuple_iterator", data := .fields #[.ref t, .int 0 0] }).push
      { cls := .type "enumerate", data := .fields #[.none, .bool false, .ref s.heap.objs.size, rawInt 0, .none, .none] }) (s.heap.objs.size + 1) s.heap.objs.size 0 .none := by
    have := Heap.get?_push_size (s.heap.push { cls := .type "tuple_iterator", data := .fields #[.ref t, .int 0 0] })
      (o := { cls := .type "enumerate", data := .fields #[.none, .bool false, .ref s.heap.objs.size, rawInt 0, .none, .none] }) rfl
    rw [hz] at this
    exact this
  exact ⟨⟨_, he, rfl⟩, h _ he ⟨_, Heap.get?_push_of_some _ (Heap.get?_push_size _ rfl), rfl, rfl⟩ fun b o x => Heap.get?_push_of_some _ (Heap.get?_push_of_some _ x)⟩
/-- the tuple at a, its items with their numbers in new pairs -/
def Iten (a : Addr) : It :=
  ⟨fun i H => ∃ (xs : List V) (x : V), H a = some (.tup xs) ∧ xs[i]? = some x,
    fun i H v H' => ∃ T x, v = .ref T ∧ H T = none ∧ H' = upd H T (.tup [.int (i : Nat), x]) ∧ ∀ xs, H a = some (.tup xs) → xs[i]? = some x,
    fun i H => ∃ xs : List V, H a = some (.tup xs) ∧ xs.length = i⟩
theorem turn_enumT {P : Program} {w : World} {K : PySem.W.Frag} {elts : List Expr} {kk : Nat} {tpos : Pos} (a e it : Addr) :
    Turn P w K (.Tuple elts kk tpos) (Iten a) [e, it] e (fun i h => (∃ old, IsEnum h e it ((i : Nat) : Int) old) ∧ h.IsTupleIter it a i ∧ e ≠ it) where
  mem := by simp
  obj := by
    rintro i h ⟨⟨old, he⟩, ⟨o, ho, hc, hd⟩, hne⟩ b hb
    have hb' : b = e ∨ b = it := by simpa using hb
    rcases hb' with z | z
    · subst z; exact ⟨_, he, fun v q => nomatch q⟩
    · subst z; exact ⟨_, ho, fun v q => by rw [hd] at q; cases q⟩
  keep := by
    rintro i h h' ⟨⟨old, he⟩, hit, hne⟩ k
    exact ⟨⟨old, k e (by simp) _ he⟩, hit.at fun o q => k it (by simp) o q, hne⟩
  item := by
    intro X hP hw hK hc i pins s σ H E I hf st hg
    subst hP hw hK
    obtain ⟨⟨old, he⟩, hit, hne⟩ := st
    obtain ⟨xs, x, hq, hx⟩ := hg
    obtain ⟨hz, its, rv, p⟩ := I.hok _ _ hq
    obtain ⟨u, hu, ru⟩ := rv.get hx
    have hT : s.heap.IsTuple a its.toArray := p
    have hilt : i < its.toArray.size := by
      have := (List.getElem?_eq_some_iff.mp hu).1
      rw [List.size_toArray]; exact this
    have hea : e ∉ [it, a] := by
      intro z
      have z' : e = it ∨ e = a := by simpa using z
      rcases z' with z | z
      · exact hne z
      · obtain ⟨o, ho, hc2, _⟩ := p
        have he' : s.heap.get? e = some _ := he
        rw [z, ho] at he'
        cases he'
        exact absurd hc2 (by simp)
    have hita : a ≠ it := by
      intro z
      obtain ⟨o, ho, hc2, _⟩ := p
      obtain ⟨o2, ho2, hc3, _⟩ := hit
      rw [z, ho2] at ho
      cases ho
      rw [hc3] at hc2
      exact absurd hc2 (by simp)
    refine wpAny_pyNext_enum_itemC (c := (i : Int)) (Draws.tuple (show X.A.in1.handled = none from I.ok.hd hc) it a hita its.toArray) he ⟨hit, hT⟩ hilt hne hea ?_
    rintro y h' tk hy ho ⟨hit', hT'⟩ hnew hsz hk
    have hyu : y = u := by
      have h1 : its.toArray[i]? = some y := hy
      rw [List.getElem?_toArray, hu] at h1
      exact (Option.some.inj h1).symm
    subst hyu
    have hel : e < s.heap.objs.size := Heap.lt_size he
    have hil : it < s.heap.objs.size := by obtain ⟨_, q, _⟩ := hit; exact Heap.lt_size q
    refine ⟨_, rfl, wpAny_letOwnedTupleGo_enum (s := { s with heap := h', toks := tk + 1 }) ho ?_⟩
    intro h'' he' sb
    have hT2 : h''.get? s.heap.objs.size = some { cls := .type "tuple", data := .seq #[.int i tk, y] } := (sb.2 _ (Nat.ne_of_gt hel)).trans hnew
    have new : ObjOk X.prog X.w (upd H s.heap.objs.size (.tup [.int (i : Nat), x])) h'' s.heap.objs.size (.tup [.int (i : Nat), x]) :=
      ⟨by show 2 ≤ sizeLine; decide, [.int i tk, y], .cons ⟨_, rfl⟩ (.cons ru .nil), ⟨_, hT2, rfl, _, rfl⟩⟩
    have I1 : Inv X pins σ (upd H s.heap.objs.size (.tup [.int (i : Nat), x])) { s with heap := h'', toks := tk + 1 } :=
      I.turnedNew (ch := [e, it]) (fun b ob hb q => (sb.2 b (fun z => hb (by simp [z]))).trans (hk b ob (fun z => hb (by simp [z])) (fun z => hb (by simp [z])) q)) hf (Nat.le_refl _) new
    refine ⟨.ref s.heap.objs.size, _, I1, rfl, ⟨_, x, rfl, I.hok.fresh (Nat.le_refl _), rfl, ?_⟩, ⟨⟨y, ?_⟩, hit'.at fun o q => (sb.2 it (Ne.symm hne)).trans q, hne⟩, ?_⟩
    · intro ys hy2
      rw [hq] at hy2
      cases hy2
      exact hx
    · have e1 : ((i + 1 : Nat) : Int) = (i : Int) + 1 := by omega
      rw [e1]; exact he'
    · intro b hb
      have hb' : b < s.heap.objs.size := by
        have e' : b = e ∨ b = it := by simpa using hb
        rcases e' with z | z
        · rw [z]; exact hel
        · rw [z]; exact hil
      rw [upd_ne (Nat.ne_of_lt hb')]
      exact (hf b hb).1
  done := by
    intro X hP hw hK hc i pins s σ H E I hf st hg
    subst hP hw hK
    obtain ⟨⟨old, he⟩, hit, hne⟩ := st
    obtain ⟨xs, hq, hx⟩ := hg
    obtain ⟨hz, its, rv, p⟩ := I.hok _ _ hq
    obtain ⟨f0, f1, f2, f3, f4, f5⟩ := hf it (by simp)
    have hl := rv.length
    have hT : s.heap.IsTuple a its.toArray := p
    have hita : a ≠ it := by
      intro z
      obtain ⟨o, ho, hc2, _⟩ := p
      obtain ⟨o2, ho2, hc3, _⟩ := hit
      rw [z, ho2] at ho
      cases ho
      rw [hc3] at hc2
      exact absurd hc2 (by simp)
    have hin : i = its.toArray.size := by rw [List.size_toArray]; omega
    subst hin
    refine wpAny_pyNext_enum_endD (Draws.tuple (show X.A.in1.handled = none from I.ok.hd hc) it a hita its.toArray) he ⟨hit, hT⟩ ?_
    intro h' eb
    exact ⟨rfl, I.turned (t' := s.toks) (fun b o hb q => eb b o hb q) f0 f1 f3 f4 f5⟩
  self := fun A i s Q E st h => let ⟨⟨_, he⟩, _⟩ := st; wpAny_pyIter_enum he h
def iEnumT (ta : TA) : TI := fun σ H R => ta σ H fun vs H1 => ∃ a xs, vs = [.ref a] ∧ H1 a = some (.tup xs) ∧ R (Iten a) H1
theorem pi_enumT {X : Cx} {e : Expr} {ta : TA} {p pos tpos : Pos} {elts : List Expr} {kk : Nat} (hg : Gl X "enumerate") (hm : X.mg "enumerate" = none) (ha : PA X [e] ta) (hs : starEach [e] X.env = [(false, eval e X.env)] := by rfl) :
    PI X (.Tuple elts kk tpos) (.Call (.Name "enumerate" p) [e] [] pos) (iEnumT ta) := by
  constructor
  intro pins s σ H R I h
  refine Call_ (ld_blt I hg hm boot_enumerate (PyProof.Rows.callWith_type1 (thn (ha.run pos pins s σ H _ I h) ?_) hs rfl))
  rintro us s1 ⟨vs, H1, I1, r1, a, xs, ex, hq, q⟩
  subst ex
  cases r1 with
  | cons r rr =>
    cases rr
    cases r
    obtain ⟨hz, its, rv, p'⟩ := I1.hok _ _ hq
    refine call_enumT (items := its.toArray) p' ?_
    intro h' he hit hk
    refine wpAny_pyIter_enum he ?_
    have I2 : Inv X pins σ H1 { s1 with heap := h' } := I1.kept (t' := s1.toks) hk
    refine ⟨s1.heap.objs.size + 1, [s1.heap.objs.size + 1, s1.heap.objs.size], _, _, H1, rfl, I2, turn_enumT a (s1.heap.objs.size + 1) s1.heap.objs.size, ⟨⟨.none, he⟩, hit, Nat.succ_ne_self _⟩, ?_, q⟩
    intro b hb
    have e' : b = s1.heap.objs.size + 1 ∨ b = s1.heap.objs.size := by simpa using hb
    have hle : s1.heap.objs.size ≤ b := by rcases e' with z | z <;> rw [z] <;> omega
    exact I1.fpOk hle (I1.hok.fresh hle)
theorem walk_enumT {a : Addr} {xs : List V} : Walk (Iten a) xs.length (fun H => H a = some (.tup xs)) (YPair (fun i => some (.int (i : Nat))) (fun i => xs[i]?)) := by
  refine ⟨fun i _ hi q => ⟨xs, xs[i], q, by simp [hi]⟩, fun _ q => ⟨xs, q, rfl⟩, fun i H v H' _ q y => ?_⟩
  obtain ⟨T, x, h1, h2, h3, h4⟩ := y
  exact ⟨T, .int (i : Nat), x, h1, h2, h3, rfl, h4 xs q⟩
end K16

set_option Elab.async false
set_option linter.all false
set_option maxRecDepth 100000
/-! Rule: {k: v}, k a tuple. -/
namespace K16
open PySem PySem.Spec PyProof.Rows L2
section
variable {prog : Program} {w : World} {K : Type} [DecidableEq K] {knd : HeapKind prog w K} {A : Around} {E : Value → Shared → Prop} {s : Shared}
theorem dict_pairs_raw {env : Env} {keys : List (Option Expr)} {values : List Expr} {pos : Pos} {pairs : List (Sem Value × Sem Value)} {Q : Value → Shared → Prop} (hu : knd.room A)
    (hshape : (evalEachOpt keys env).zip ((evalEach values env).map fun v => do let x ← v; standAt pos; pure x) = pairs.map fun p => (some p.1, p.2)) (h0 : pairs ≠ []) (hlen : pairs.length ≤ 15)
    (h : wpAny (model prog w) A (evalPairs pairs) (fun vs s1 => ∃ ps, CarriesH knd s1.heap vs ps ∧ s1.heap.DictOfH knd s.heap.objs.size [] ∧
      ∀ h' tk, h'.DictOfH knd s.heap.objs.size (storedAllH [] ps) → Heap.SameBut s.heap.objs.size s1.heap h' → Q (.ref s.heap.objs.size) { s1 with heap := h', toks := tk }) E
      { s with heap := s.heap.push { cls := .type "dict", data := .dict #[] } }) :
    wpAny (model prog w) A (eval (.Dict keys values pos) env) Q E s := by
  rw [arm_eval_Dict, hshape, dictDisplay_pairs pairs h0 (by omega)]
  refine wpAny_bind (wpAny_standAt (wpAny_bind (wpAny_subDictH (knd := knd) (Q := fun d s' => wpAny (model prog w) A (pure (Value.ref d)) Q E s') hu hlen (wpAny_mono h ?_ fun _ _ e => e))))
  rintro vs s1 ⟨ps, hc, hm, hq⟩
  exact ⟨ps, hc, hm, fun h' tk a b => wpAny_pure (hq h' tk a b)⟩
end
def tDispT1 (tk tv : TE) : TE := fun σ H Q => ∀ p, H p = none → tk σ (upd H p (.dT [])) fun x H1 => tv σ H1 fun y H2 => ∃ b k, x = .ref b ∧ H2 b = some (.tup (k.map kV)) ∧ H2 p = some (.dT []) ∧ Q (.ref p) (upd H2 p (.dT [(k, y)]))
theorem pe_dispT1 {X : Cx} {pos : Pos} {ke ve : Expr} {tk tv : TE} (hu : X.A.units + 64 < cLine) (hk : PE X ke tk) (hv : PE X ve tv) : PE X (.Dict [some ke] [ve] pos) (tDispT1 tk tv) := by
  constructor
  intro pins s σ H Q I q
  have hn := I.hok.fresh (Nat.le_refl s.heap.objs.size)
  have I1 := I.laid (a := s.heap.objs.size) (o := .dT []) (h' := s.heap.push { cls := .type "dict", data := .dict #[] }) (t' := s.toks) (fun _ _ q => Heap.get?_push_of_some _ q) (Nat.le_refl _) (dt_empty s.heap I.big)
  have hp : PPs X pos [some ke] [ve] [(tk, tv)] := pps_cons hk hv pps_nil
  have hroom : (tupleKind (mixKind X.prog X.w)).room X.A := by
    have := tupleKind_room_in1 (prog := X.prog) (w := X.w) (knd := mixKind X.prog X.w) (A := X.A) (by omega)
    show X.A.units < cLine
    omega
  refine dict_pairs_raw (knd := tupleKind (mixKind X.prog X.w)) (pairs := pairTrees [some ke] [ve] X.env pos) hroom (zip_pairTrees _ _ _ _ rfl rfl) (by simp [pairTrees]) (by simp [pairTrees]) ?_
  refine thn (hp.run pins _ σ _ (fun ps H2 => match ps with
    | [(x, y)] => ∃ b k, x = .ref b ∧ H2 b = some (.tup (k.map kV)) ∧ H2 s.heap.objs.size = some (.dT []) ∧ Q (.ref s.heap.objs.size) (upd H2 s.heap.objs.size (.dT [(k, y)]))
    | _ => False) I1 (q _ hn)) ?_
  rintro vs s2 ⟨ps, H2, I2, rel, h2⟩
  obtain ⟨x, y, rfl⟩ : ∃ x y, ps = [(x, y)] := by
    cases ps with
    | nil => exact False.elim h2
    | cons a r =>
      cases r with
      | nil => exact ⟨a.1, a.2, rfl⟩
      | cons b r => exact False.elim h2
  obtain ⟨b, k, rfl, hb, hd0, q2⟩ := h2
  cases rel with
  | cons r rr =>
  cases rr
  rename_i pr
  obtain ⟨v1, v2⟩ := pr
  obtain ⟨r1, r2⟩ := r
  have r1' : v1 = Value.ref b := r1
  subst r1'
  obtain ⟨z, hd, xs, rel, dd⟩ := dt_of I2.hok hd0
  cases rel
  refine ⟨[(k, b, v2)], ⟨rfl, rfl, key_of I2.hok hb, trivial⟩, dd, ?_⟩
  intro h' tk2 dd' hs
  have e0 : storedAllH ([] : List (List Key × Addr × Value)) [(k, b, v2)] = [(k, b, v2)] := rfl
  rw [e0] at dd'
  obtain ⟨o, es, ep, e1, e2, e3, e4, _, e6⟩ := dd'
  refine ⟨.ref s.heap.objs.size, _, d_write (ob := .dT [(k, y)]) I2 (by rw [hd0]; exact True.intro) hs ⟨o, e1⟩ ⟨by show 1 ≤ sizeLine; decide, hd, [(k, b, v2)], .cons ⟨rfl, ?_, r2⟩ .nil, o, es, ep, e1, e2, e3, e4, e6⟩, rfl, q2⟩
  show upd H2 s.heap.objs.size (.dT [(k, y)]) b = some (.tup (k.map kV))
  rw [upd_ne (ne_of hb hd0 (fun z => nomatch z))]
  exact hb
end K16

set_option Elab.async false
set_option linter.all false
set_option maxRecDepth 100000
/-! Trees, nodes, values as data; what is known of such data. -/
namespace K16
open PySem

def vd : Va → PyData
  | .z => .int 0
  | .o => .int 1
  | .zo => .tuple [.int 0, .int 1]
  | .zz => .tuple [.int 0, .int 0]
def pd (p : Pl) : PyData := .tuple [.int (p.1 : Int), .int (p.2 : Int)]
mutual
def tr : Tr → PyData
  | .fin v => .tuple [.str "end", vd v]
  | .ask p bs => .tuple [.str "ask", pd p, .tuple (trs bs)]
def trs : List Tr → List PyData
  | [] => []
  | b :: bs => tr b :: trs bs
end
theorem trs_map : ∀ bs : List Tr, trs bs = bs.map tr
  | [] => rfl
  | b :: bs => by rw [trs, trs_map bs]; rfl
theorem tr_fin (v : Va) : tr (.fin v) = .tuple [.str "end", vd v] := rfl
theorem tr_ask (p : Pl) (bs : List Tr) : tr (.ask p bs) = .tuple [.str "ask", pd p, .tuple (bs.map tr)] := by rw [tr, trs_map]
def nD : Nd → PyData
  | .fin v => .tuple [.str "end", vd v]
  | .ask p ks => .tuple [.str "ask", pd p, .tuple (ks.map fun (k : Nat) => PyData.int (k : Int))]

/-! ### injective -/
theorem vd_inj : ∀ {a b : Va}, vd a = vd b → a = b
  | .z, .z, _ => rfl
  | .o, .o, _ => rfl
  | .zo, .zo, _ => rfl
  | .zz, .zz, _ => rfl
  | .z, .o, h => by simp [vd] at h
  | .z, .zo, h => by simp [vd] at h
  | .z, .zz, h => by simp [vd] at h
  | .o, .z, h => by simp [vd] at h
  | .o, .zo, h => by simp [vd] at h
  | .o, .zz, h => by simp [vd] at h
  | .zo, .z, h => by simp [vd] at h
  | .zo, .o, h => by simp [vd] at h
  | .zo, .zz, h => by simp [vd] at h
  | .zz, .z, h => by simp [vd] at h
  | .zz, .o, h => by simp [vd] at h
  | .zz, .zo, h => by simp [vd] at h
theorem pd_inj {p q : Pl} (h : pd p = pd q) : p = q := by
  obtain ⟨a, b⟩ := p
  obtain ⟨c, d⟩ := q
  unfold pd at h
  injection h with h
  injection h with h1 h2
  injection h2 with h2 _
  injection h1 with h1
  injection h2 with h2
  have h1' : (a : Int) = (c : Int) := h1
  have h2' : (b : Int) = (d : Int) := h2
  have e1 : a = c := by omega
  have e2 : b = d := by omega
  rw [e1, e2]
theorem map_inj_on {α β : Type} {f : α → β} : ∀ {l k : List α}, (∀ a ∈ l, ∀ b, f a = f b → a = b) → l.map f = k.map f → l = k
  | [], [], _, _ => rfl
  | [], _ :: _, _, h => by simp at h
  | _ :: _, [], _, h => by simp at h
  | a :: l, b :: k, hi, h => by
    rw [List.map_cons, List.map_cons] at h
    injection h with h1 h2
    rw [hi a List.mem_cons_self b h1, map_inj_on (fun x hx => hi x (List.mem_cons_of_mem _ hx)) h2]
theorem tr_inj (t : Tr) : ∀ u, tr t = tr u → t = u := by
  induction t using Tr.ind with
  | h1 v =>
    intro u h
    cases u with
    | fin w =>
      rw [tr_fin, tr_fin] at h
      injection h with h
      injection h with _ h
      injection h with h _
      rw [vd_inj h]
    | ask q cs =>
      rw [tr_fin, tr_ask] at h
      injection h with h
      injection h with _ h
      injection h with _ h
      exact nomatch h
  | h2 p bs ih =>
    intro u h
    cases u with
    | fin w =>
      rw [tr_fin, tr_ask] at h
      injection h with h
      injection h with _ h
      injection h with _ h
      exact nomatch h
    | ask q cs =>
      rw [tr_ask, tr_ask] at h
      injection h with h
      injection h with _ h
      injection h with h1 h2
      injection h2 with h2 _
      injection h2 with h2
      rw [pd_inj h1, map_inj_on ih h2]

/-! ### nice data: ints and texts of small size, lists, tuples -/
mutual
def nice : PyData → Bool
  | .int i => decide (i.natAbs < 10 ^ 19)
  | .str x => PyData.strOk x
  | .list xs => niceAll xs
  | .tuple xs => niceAll xs
  | .none => false
  | .bool _ => false
  | .dict _ => false
def niceAll : List PyData → Bool
  | [] => true
  | x :: xs => nice x && niceAll xs
end
theorem niceAll_mem : ∀ {xs : List PyData}, niceAll xs = true ↔ ∀ x ∈ xs, nice x = true
  | [] => by simp [niceAll]
  | x :: xs => by rw [niceAll, Bool.and_eq_true, niceAll_mem]; simp
mutual
theorem nice_eqv : ∀ d e : PyData, nice d = true → nice e = true → (PyData.eqv d e = true ↔ d = e)
  | .int i, .int j, _, _ => by simp [PyData.eqv]
  | .int i, .str y, _, _ => by simp [PyData.eqv]
  | .int i, .list ys, _, _ => by simp [PyData.eqv]
  | .int i, .tuple ys, _, _ => by simp [PyData.eqv]
  | .str x, .int j, _, _ => by simp [PyData.eqv]
  | .str x, .str y, _, _ => by simp [PyData.eqv]
  | .str x, .list ys, _, _ => by simp [PyData.eqv]
  | .str x, .tuple ys, _, _ => by simp [PyData.eqv]
  | .list xs, .int j, _, _ => by simp [PyData.eqv]
  | .list xs, .str y, _, _ => by simp [PyData.eqv]
  | .list xs, .list ys, h, h' => by
    rw [PyData.eqv, nice_eqvAll xs ys (by simpa [nice] using h) (by simpa [nice] using h')]
    simp
  | .list xs, .tuple ys, _, _ => by simp [PyData.eqv]
  | .tuple xs, .int j, _, _ => by simp [PyData.eqv]
  | .tuple xs, .str y, _, _ => by simp [PyData.eqv]
  | .tuple xs, .list ys, _, _ => by simp [PyData.eqv]
  | .tuple xs, .tuple ys, h, h' => by
    rw [PyData.eqv, nice_eqvAll xs ys (by simpa [nice] using h) (by simpa [nice] using h')]
    simp
  | .none, _, h, _ => by simp [nice] at h
  | .bool _, _, h, _ => by simp [nice] at h
  | .dict _, _, h, _ => by simp [nice] at h
  | _, .none, _, h => by simp [nice] at h
  | _, .bool _, _, h => by simp [nice] at h
  | _, .dict _, _, h => by simp [nice] at h
theorem nice_eqvAll : ∀ xs ys : List PyData, niceAll xs = true → niceAll ys = true → (PyData.eqvAll xs ys = true ↔ xs = ys)
  | [], [], _, _ => by simp [PyData.eqvAll]
  | [], _ :: _, _, _ => by simp [PyData.eqvAll]
  | _ :: _, [], _, _ => by simp [PyData.eqvAll]
  | x :: xs, y :: ys, h, h' => by
    have h1 : nice x = true ∧ niceAll xs = true := by simpa [niceAll] using h
    have h2 : nice y = true ∧ niceAll ys = true := by simpa [niceAll] using h'
    rw [PyData.eqvAll, Bool.and_eq_true, nice_eqv x y h1.1 h2.1, nice_eqvAll xs ys h1.2 h2.2]
    simp
end
theorem eqv_dec {d e : PyData} (h : nice d = true) (h' : nice e = true) : PyData.eqv d e = @decide (d = e) (Classical.propDecidable _) := by
  have := nice_eqv d e h h'
  by_cases q : d = e
  · rw [this.mpr q]; simp [q]
  · have q' : PyData.eqv d e = false := by
      cases hq : PyData.eqv d e with
      | false => rfl
      | true => exact absurd (this.mp hq) q
    rw [q']; simp [q]
mutual
theorem nice_lay : ∀ d : PyData, nice d = true → d.canLay0 = true
  | .int i, _ => by simp [PyData.canLay0]
  | .str x, h => by simpa [PyData.canLay0, nice] using h
  | .list xs, h => by simpa [PyData.canLay0] using nice_layAll xs (by simpa [nice] using h)
  | .tuple xs, h => by simpa [PyData.canLay0] using nice_layAll xs (by simpa [nice] using h)
  | .none, h => by simp [nice] at h
  | .bool _, h => by simp [nice] at h
  | .dict _, h => by simp [nice] at h
theorem nice_layAll : ∀ xs : List PyData, niceAll xs = true → PyData.canLayAll0 xs = true
  | [], _ => by simp [PyData.canLayAll0]
  | x :: xs, h => by
    have h1 : nice x = true ∧ niceAll xs = true := by simpa [niceAll] using h
    rw [PyData.canLayAll0, nice_lay x h1.1, nice_layAll xs h1.2]; rfl
end
theorem log_small {n : Nat} (h : n < 10 ^ 19) : n.log2 < 1920 := by
  by_cases h0 : n = 0
  · subst h0; simp
  · have h2 : n < 2 ^ 64 := Nat.lt_trans h (by decide)
    have := (Nat.log2_lt h0).mpr h2
    omega
theorem log_64 {n : Nat} (h : n < 10 ^ 19) : n.log2 ≤ 63 := by
  by_cases h0 : n = 0
  · subst h0; simp
  · have h2 : n < 2 ^ 64 := Nat.lt_trans h (by decide)
    have := (Nat.log2_lt h0).mpr h2
    omega
mutual
theorem nice_show : ∀ d : PyData, nice d = true → d.showable = true ∧ d.intsShort 20 = true
  | .int i, h => by
    have h' : i.natAbs < 10 ^ 19 := by simpa [nice] using h
    refine ⟨by simpa [PyData.showable] using log_small h', ?_⟩
    have e := int_text_length_le10 (k := 19) (by decide) h'
    simp only [PyData.intsShort, decide_eq_true_eq]
    show (Str.ofString (toString i)).length ≤ 20
    rw [ofString_length]; exact e
  | .str x, h => by simp [PyData.showable, PyData.intsShort]
  | .list xs, h => by
    have := nice_showAll xs (by simpa [nice] using h)
    simpa [PyData.showable, PyData.intsShort] using this
  | .tuple xs, h => by
    have := nice_showAll xs (by simpa [nice] using h)
    simpa [PyData.showable, PyData.intsShort] using this
  | .none, h => by simp [nice] at h
  | .bool _, h => by simp [nice] at h
  | .dict _, h => by simp [nice] at h
theorem nice_showAll : ∀ xs : List PyData, niceAll xs = true → PyData.showableAll xs = true ∧ PyData.intsShortAll 20 xs = true
  | [], _ => by simp [PyData.showableAll, PyData.intsShortAll]
  | x :: xs, h => by
    have h1 : nice x = true ∧ niceAll xs = true := by simpa [niceAll] using h
    obtain ⟨a, b⟩ := nice_show x h1.1
    obtain ⟨c, d⟩ := nice_showAll xs h1.2
    rw [PyData.showableAll, PyData.intsShortAll, a, b, c, d]; exact ⟨rfl, rfl⟩
end
/-- what repr asks of nice data -/
theorem nice_repr {d : PyData} (h : nice d = true) (hd : d.depth ≤ 60) (hw : d.weight ≤ 700000) : d.showable = true ∧ d.hasDict = false ∧ d.depth ≤ 60 ∧ d.shown.length ≤ sizeLine := by
  obtain ⟨h1, h2⟩ := nice_show d h
  refine ⟨h1, PyData.hasDict_of_canLay d (nice_lay d h), hd, ?_⟩
  have h3 := PyData.shown_le 20 (by decide) d (PyData.leavesShort_of_canLay0 20 d (nice_lay d h) h2)
  have h4 : (20 + 2) * d.weight ≤ 22 * 700000 := Nat.mul_le_mul (by decide) hw
  rw [sizeLine_eq]
  omega
theorem nice_shaped {d : PyData} (h : nice d = true) (hd : d.depth ≤ 64) : SeqAt.shaped d = true := by
  unfold SeqAt.shaped
  rw [nice_lay d h, decide_eq_true hd]; rfl

/-! ### the data at hand are nice -/
theorem weight_tuple (xs : List PyData) : (PyData.tuple xs).weight = PyData.weightAll xs := by rw [PyData.weight]
theorem weight_list (xs : List PyData) : (PyData.list xs).weight = PyData.weightAll xs := by rw [PyData.weight]
/-- a place whose numbers are not too great -/
def PlOk (p : Pl) : Prop := p.1 < 10 ^ 18 ∧ p.2 < 4
theorem nice_int {n : Nat} (h : n < 10 ^ 19) : nice (.int (n : Int)) = true := by
  simp only [nice, decide_eq_true_eq]
  omega
theorem nice_vd : ∀ v : Va, nice (vd v) = true
  | .z => by decide
  | .o => by decide
  | .zo => by decide
  | .zz => by decide
theorem depth_vd : ∀ v : Va, (vd v).depth ≤ 1
  | .z => by decide
  | .o => by decide
  | .zo => by decide
  | .zz => by decide
theorem weight_vd : ∀ v : Va, (vd v).weight ≤ 3
  | .z => by decide
  | .o => by decide
  | .zo => by decide
  | .zz => by decide
theorem nice_pd {p : Pl} (h : PlOk p) : nice (pd p) = true := by
  unfold pd
  have h1 : p.1 < 10 ^ 19 := Nat.lt_trans h.1 (by decide)
  have h2 : p.2 < 10 ^ 19 := Nat.lt_of_lt_of_le h.2 (by decide)
  simp only [nice, niceAll, Bool.and_true, Bool.and_eq_true]
  exact ⟨by simpa [nice] using nice_int h1, by simpa [nice] using nice_int h2⟩
theorem depth_pd (p : Pl) : (pd p).depth = 1 := by simp [pd, PyData.depth, PyData.depthAll]
theorem weight_int {n : Nat} (h : n < 10 ^ 19) : (PyData.int (n : Int)).weight ≤ 64 := by
  simp only [PyData.weight]
  split
  · omega
  · have : (n : Int).natAbs < 10 ^ 19 := by omega
    have := log_64 this
    omega
theorem weight_pd {p : Pl} (h : PlOk p) : (pd p).weight ≤ 130 := by
  have h1 : p.1 < 10 ^ 19 := Nat.lt_trans h.1 (by decide)
  have h2 : p.2 < 10 ^ 19 := Nat.lt_of_lt_of_le h.2 (by decide)
  have e1 := weight_int h1
  have e2 := weight_int h2
  unfold pd
  rw [weight_tuple]
  simp only [PyData.weightAll]
  omega
/-- all places of the tree are not too great -/
def TrOk (t : Tr) : Prop := ∀ p ∈ pls t, PlOk p
theorem TrOk.child {p : Pl} {bs : List Tr} (h : TrOk (.ask p bs)) {b : Tr} (hb : b ∈ bs) : TrOk b := fun q hq => h q (by
  rw [pls]; exact List.mem_cons_of_mem _ (plss_mem.mpr ⟨b, hb, hq⟩))
theorem TrOk.root {p : Pl} {bs : List Tr} (h : TrOk (.ask p bs)) : PlOk p := h p (by rw [pls]; exact List.mem_cons_self)
theorem nice_tr (t : Tr) : TrOk t → nice (tr t) = true := by
  induction t using Tr.ind with
  | h1 v =>
    intro _
    rw [tr_fin]
    simp only [nice, niceAll, Bool.and_true, Bool.and_eq_true]
    exact ⟨by decide +kernel, nice_vd v⟩
  | h2 p bs ih =>
    intro h
    rw [tr_ask]
    simp only [nice, niceAll, Bool.and_true, Bool.and_eq_true]
    refine ⟨by decide +kernel, nice_pd h.root, niceAll_mem.mpr fun x hx => ?_⟩
    obtain ⟨b, hb, rfl⟩ := List.mem_map.mp hx
    exact ih b hb (h.child hb)
theorem depthAll_le {c : Nat} : ∀ {xs : List PyData}, (∀ x ∈ xs, x.depth ≤ c) → PyData.depthAll xs ≤ c
  | [], _ => by simp [PyData.depthAll]
  | x :: xs, h => by
    rw [PyData.depthAll]
    exact Nat.max_le.mpr ⟨h x List.mem_cons_self, depthAll_le fun y hy => h y (List.mem_cons_of_mem _ hy)⟩
theorem weightAll_le {c : Nat} : ∀ {xs : List PyData}, (∀ x ∈ xs, x.weight ≤ c) → PyData.weightAll xs ≤ xs.length * (c + 1)
  | [], _ => by simp [PyData.weightAll]
  | x :: xs, h => by
    rw [PyData.weightAll, List.length_cons, Nat.succ_mul]
    have h1 := h x List.mem_cons_self
    have h2 := weightAll_le fun y hy => h y (List.mem_cons_of_mem _ hy)
    omega
theorem depth_tr (t : Tr) : (tr t).depth ≤ 2 * dp t + 2 := by
  induction t using Tr.ind with
  | h1 v =>
    rw [tr_fin]
    have := depth_vd v
    simp only [PyData.depth, PyData.depthAll, dp]
    omega
  | h2 p bs ih =>
    rw [tr_ask]
    have h1 : PyData.depthAll (bs.map tr) ≤ 2 * dps bs + 2 := depthAll_le fun x hx => by
      obtain ⟨b, hb, rfl⟩ := List.mem_map.mp hx
      have := ih b hb
      have := dps_mem hb
      omega
    have h2 := depth_pd p
    simp only [PyData.depth, PyData.depthAll, dp]
    omega
theorem weight_tr (t : Tr) : TrOk t → (tr t).weight + 1 ≤ 140 * nd t := by
  induction t using Tr.ind with
  | h1 v =>
    intro _
    rw [tr_fin]
    have h1 := weight_vd v
    have e : (PyData.str "end").weight = 3 := by decide
    rw [weight_tuple]
    simp only [PyData.weightAll, nd]
    rw [e]
    omega
  | h2 p bs ih =>
    intro h
    rw [tr_ask]
    have h1 : ∀ cs : List Tr, (∀ c ∈ cs, c ∈ bs) → PyData.weightAll (cs.map tr) ≤ 140 * nds cs := by
      intro cs
      induction cs with
      | nil => intro _; simp [PyData.weightAll]
      | cons c cs ihc =>
        intro hc
        have a1 := ih c (hc c List.mem_cons_self) (h.child (hc c List.mem_cons_self))
        have a2 := ihc fun x hx => hc x (List.mem_cons_of_mem _ hx)
        rw [List.map_cons, PyData.weightAll, nds]
        omega
    have h2 := h1 bs fun _ hc => hc
    have h3 := weight_pd h.root
    have e : (PyData.str "ask").weight = 3 := by decide
    rw [weight_tuple]
    simp only [PyData.weightAll, nd]
    rw [e, weight_tuple]
    omega
end K16

set_option Elab.async false
set_option linter.all false
set_option maxRecDepth 100000
/-! The text by places; defs by name; shared helpers. -/
namespace K16
open PySem PySem.Spec PyProof.Rows L2

def top (i : Nat) : Stmt := PySem.Challenge.pw_allendless_k16_whole_shared_forms.main.body.getD i (.Pass ⟨0, 0, 0, 0⟩)
/-- a def of the module under its name -/
structure Def (K : PySem.W.Frag) (mg : Str → Option Value) (x : Str) (st : Stmt) (ps : List Str) : Prop where
  ex : ∃ (f : Addr) (fd : FuncData), Fun K x x st f fd ∧ mg x = some (.ref f) ∧ Binds K fd ps []
/-- a def that may be called by its name, with its promise -/
structure Cal (P : Program) (w : World) (K : PySem.W.Frag) (mg : Str → Option Value) (base : Heap) (k : Nat) (x : Str) (sp : Sp) : Prop where
  ex : ∃ (f : Addr) (fd : FuncData) (ps : List Str), FnOk P w K mg base CX0 k f fd ps sp ∧ mg x = some (.ref f) ∧ PySem.W.keepIn K (.ref f) = true ∧ Binds K fd ps []
structure CalG (P : Program) (w : World) (K : PySem.W.Frag) (mg : Str → Option Value) (base : Heap) (k : Nat) (x : Str) (sp : Sp) : Prop where
  ex : ∃ (f : Addr) (fd : FuncData) (ps : List Str), FnG P w K mg base k f fd ps sp ∧ mg x = some (.ref f) ∧ PySem.W.keepIn K (.ref f) = true ∧ Binds K fd ps []
section
variable {P : Program} {w : World} {K : PySem.W.Frag} {mg : Str → Option Value} {base : Heap}
theorem Cal.mono {j k : Nat} {x : Str} {sp : Sp} (C : Cal P w K mg base j x sp) (h : j ≤ k) : Cal P w K mg base k x sp :=
  let ⟨f, fd, ps, F, r⟩ := C.ex
  ⟨f, fd, ps, F.mono h, r⟩
theorem CalG.mono {j k : Nat} {x : Str} {sp : Sp} (C : CalG P w K mg base j x sp) (h : j ≤ k) : CalG P w K mg base k x sp :=
  let ⟨f, fd, ps, F, r⟩ := C.ex
  ⟨f, fd, ps, F.mono h, r⟩
/-- a def's promise from its body -/
theorem Def.ok {x : Str} {st : Stmt} {N ps : List Str} {k : Nat} {sp : Sp} (D : Def K mg x st ps) (S : FnScope N ps (defScope st)) (len : ∀ vs H Q E, sp vs H Q E → vs.length = ps.length)
    (hbody : ∀ (f : Addr) (cdv : Value) (A : Around) (outer : List Env) (s : Shared) (H : Hp) (vs : List V) (Q : VK) (E : XK), Room k (A.deeper (envOfC x (defScope st) s.heap.objs.size f cdv)) → sp vs H Q E →
      ∃ t, PSs (cxOf CX0 P w K mg base N x (defScope st) f cdv A outer s H E).nox (defBody st) t ∧ t { nx := fun _ H' => Q .non H', rt := Q } (start N vs) H) : Cal P w K mg base (k + 1) x sp := by
  obtain ⟨f, fd, F, hm, hb⟩ := D.ex
  exact ⟨f, fd, ps, F.ok S len fun cdv A outer s H vs Q E hr h => hbody f cdv A outer s H vs Q E hr h, hm, F.kp, hb⟩
theorem Def.okG {x : Str} {st : Stmt} {N ps : List Str} {k : Nat} {sp : Sp} (D : Def K mg x st ps) (S : FnScope N ps (defScope st)) (len : ∀ vs H Q E, sp vs H Q E → vs.length = ps.length)
    (hbody : ∀ (f : Addr) (cdv : Value) (A : Around) (outer : List Env) (s : Shared) (H : Hp) (vs : List V) (Q : VK) (E : XK), Room k (A.deeper (envOfC x (defScope st) s.heap.objs.size f cdv)) → A.guards = some [] → sp vs H Q E →
      ∃ t, PSs (cxOf CX0 P w K mg base N x (defScope st) f cdv A outer s H E).nox (defBody st) t ∧ t { nx := fun _ H' => Q .non H', rt := Q } (start N vs) H) : CalG P w K mg base (k + 1) x sp := by
  obtain ⟨f, fd, F, hm, hb⟩ := D.ex
  exact ⟨f, fd, ps, K16.okG F S len fun cdv A outer s H vs Q E hr hg h => hbody f cdv A outer s H vs Q E hr hg h, hm, F.kp, hb⟩
end
section
variable {X : Cx} {k : Nat} {sp : Sp} {x : Str} {p pos : Pos} {e : Expr} {es : List Expr} {t : TA}
/-- f(e, ..) of the module -/
def tCal (sp : Sp) (t : TA) : TE := fun σ H Q => t σ H fun vs H1 => sp vs H1 Q E0
theorem pe_cal (C : Cal X.prog X.w X.K X.mg X.base k x sp) (hr : Room k X.A) (ha : PA X (e :: es) t) (hg : Gl X x := by rfl)
    (hdb : (x == ("__debug__" : Str)) = false := by decide) (he : starEach (e :: es) X.env = (false, eval e X.env) :: starEach es X.env := by rfl) (hpl : (backTo pos (starEach es X.env)).any (·.1) = false := by rfl) :
    PE X (.Call (.Name x p) (e :: es) [] pos) (tCal sp t) := by
  obtain ⟨f, fd, ps, F, hm, hk, hb⟩ := C.ex
  have h := pe_call (dvs := []) (ds := []) F hr hg hm hk hb .nil pass0 ha hdb he hpl (p := p)
  refine ⟨fun pins s σ H Q I q => h.run pins s σ H Q I ?_⟩
  have e : (fun vs H1 => sp (vs ++ []) H1 Q E0) = fun vs H1 => sp vs H1 Q E0 := by
    funext vs H1
    rw [List.append_nil]
  show t σ H (fun vs H1 => sp (vs ++ []) H1 Q E0)
  rw [e]
  exact q
theorem pe_calG (C : CalG X.prog X.w X.K X.mg X.base k x sp) (hr : Room k X.A) (hgu : X.A.guards = some []) (ha : PA X (e :: es) t) (hg : Gl X x := by rfl)
    (hdb : (x == ("__debug__" : Str)) = false := by decide) (he : starEach (e :: es) X.env = (false, eval e X.env) :: starEach es X.env := by rfl) (hpl : (backTo pos (starEach es X.env)).any (·.1) = false := by rfl) :
    PE X (.Call (.Name x p) (e :: es) [] pos) (tCal sp t) := by
  obtain ⟨f, fd, ps, F, hm, hk, hb⟩ := C.ex
  exact pe_callG F hr hgu hg hm hk hb ha hdb he hpl
theorem pe_calG0 (C : CalG X.prog X.w X.K X.mg X.base k x sp) (hr : Room k X.A) (hgu : X.A.guards = some []) (hg : Gl X x := by rfl) (hdb : (x == ("__debug__" : Str)) = false := by decide) :
    PE X (.Call (.Name x p) [] [] pos) (fun σ H Q => sp [] H Q E0) := by
  obtain ⟨f, fd, ps, F, hm, hk, hb⟩ := C.ex
  exact pe_callG0 F hr hgu hg hm hk hb hdb
end

/-! ### trees in the heap -/
abbrev TrAt (H : Hp) (v : V) (t : Tr) : Prop := Ts H v (tr t)
theorem Ts.tupE {H : Hp} {v : V} {ds : List PyData} (h : Ts H v (.tuple ds)) : ∃ a xs, v = .ref a ∧ H a = some (.tup xs) ∧ TsA H xs ds := by
  cases h with
  | tup e t => exact ⟨_, _, rfl, e, t⟩
theorem TsA.one {H : Hp} {xs : List V} {d : PyData} (h : TsA H xs [d]) : ∃ x, xs = [x] ∧ Ts H x d := by
  cases h with
  | cons a t => cases t; exact ⟨_, rfl, a⟩
theorem TsA.two {H : Hp} {xs : List V} {d e : PyData} (h : TsA H xs [d, e]) : ∃ x y, xs = [x, y] ∧ Ts H x d ∧ Ts H y e := by
  cases h with
  | cons a t =>
    obtain ⟨y, rfl, b⟩ := t.one
    exact ⟨_, y, rfl, a, b⟩
theorem TsA.three {H : Hp} {xs : List V} {d e f : PyData} (h : TsA H xs [d, e, f]) : ∃ x y z, xs = [x, y, z] ∧ Ts H x d ∧ Ts H y e ∧ Ts H z f := by
  cases h with
  | cons a t =>
    obtain ⟨y, z, rfl, b, c⟩ := t.two
    exact ⟨_, y, z, rfl, a, b, c⟩
theorem Ts.strE {H : Hp} {v : V} {x : Str} (h : Ts H v (.str x)) : v = .str x := by cases h; rfl
theorem Ts.intE {H : Hp} {v : V} {i : Int} (h : Ts H v (.int i)) : v = .int i := by cases h; rfl
/-- an end, told -/
theorem TrAt.fin {H : Hp} {v : V} {a : Va} (h : TrAt H v (.fin a)) : ∃ q x, v = .ref q ∧ H q = some (.tup [.str "end", x]) ∧ Ts H x (vd a) := by
  rw [TrAt, tr_fin] at h
  obtain ⟨q, xs, rfl, e, t⟩ := h.tupE
  obtain ⟨x, y, rfl, h1, h2⟩ := t.two
  rw [h1.strE] at e
  exact ⟨q, y, rfl, e, h2⟩
theorem PlAt_tup {H : Hp} {v : V} {p : Pl} (h : Ts H v (pd p)) : ∃ q, v = .ref q ∧ H q = some (.tup [.int (p.1 : Int), .int (p.2 : Int)]) := by
  obtain ⟨q, xs, rfl, e, t⟩ := h.tupE
  obtain ⟨x, y, rfl, h1, h2⟩ := t.two
  rw [h1.intE, h2.intE] at e
  exact ⟨q, rfl, e⟩
theorem PlAt_key {H : Hp} {q : Addr} {p : Pl} (e : H q = some (.tup [.int (p.1 : Int), .int (p.2 : Int)])) : H q = some (.tup ((pk p).map kV)) := e
theorem PlAt_mk {H : Hp} {q : Addr} {p : Pl} (e : H q = some (.tup [.int (p.1 : Int), .int (p.2 : Int)])) : Ts H (.ref q) (pd p) := .tup e (.cons (.int _) (.cons (.int _) .nil))
/-- a question, told: the tuple, its place, its branches -/
theorem TrAt.ask {H : Hp} {v : V} {p : Pl} {bs : List Tr} (h : TrAt H v (.ask p bs)) : ∃ q r b xs, v = .ref q ∧ H q = some (.tup [.str "ask", .ref r, .ref b]) ∧ H r = some (.tup [.int (p.1 : Int), .int (p.2 : Int)]) ∧ H b = some (.tup xs) ∧ TsA H xs (bs.map tr) := by
  rw [TrAt, tr_ask] at h
  obtain ⟨q, xs, rfl, e, t⟩ := h.tupE
  obtain ⟨x, y, z, rfl, h1, h2, h3⟩ := t.three
  obtain ⟨r, rfl, er⟩ := PlAt_tup h2
  obtain ⟨b, ys, rfl, eb, tb⟩ := h3.tupE
  rw [h1.strE] at e
  exact ⟨q, r, b, ys, rfl, e, er, eb, tb⟩
theorem TrAt.kid {H : Hp} {xs : List V} {bs : List Tr} (t : TsA H xs (bs.map tr)) {d : Nat} {b : Tr} (h : bs[d]? = some b) : ∃ v, xs[d]? = some v ∧ TrAt H v b :=
  t.get (by rw [List.getElem?_map, h]; rfl)
theorem ask_ne_end : ¬ (("ask" : Str) = "end") := by decide +kernel
theorem end_ne_ask : ¬ (("end" : Str) = "ask") := by decide +kernel
/-- what a test of texts gives -/
theorem dec_same (x : Str) : decide (V.str x = V.str x) = true := decide_eq_true rfl
theorem dec_ask_end : decide (V.str "ask" = V.str "end") = false := decide_eq_false fun h => ask_ne_end (V.str.inj h)
theorem dec_end_ask : decide (V.str "end" = V.str "ask") = false := decide_eq_false fun h => end_ne_ask (V.str.inj h)
theorem itF {A B : Prop} {b : Bool} (e : b = false) (h : B) : if b = true then A else B := by rw [e]; exact h
theorem itT {A B : Prop} {b : Bool} (e : b = true) (h : A) : if b = true then A else B := by rw [e]; exact h
/-- built-ins that the module does not bind -/
structure Bi (mg : Str → Option Value) : Prop where
  len : mg "len" = none
  tuple : mg "tuple" = none
  list : mg "list" = none
  range : mg "range" = none
  sorted : mg "sorted" = none
  sum : mg "sum" = none
  all : mg "all" = none
  int : mg "int" = none
  repr : mg "repr" = none
  dict : mg "dict" = none
  enumerate : mg "enumerate" = none
section
variable {X : Cx} {a b : Expr} {ta tb : TE} {pos : Pos}
theorem pe_it (ha : PE X a ta) (hb : PE X b tb) (hs : PlainIx b := by intro _ _; rfl) : PE X (.Subscript a b pos) (tOp (rIxT X.K) ta tb) := pe_ix ix_tup ha hb hs
theorem pe_il (ha : PE X a ta) (hb : PE X b tb) (hs : PlainIx b := by intro _ _; rfl) : PE X (.Subscript a b pos) (tOp (rIxL X.K) ta tb) := pe_ix ix_list ha hb hs
end
theorem PD_put {H : Hp} {a q : Addr} {ps : PV} {p : Pl} {v : V} (h : H a = some (.dT (ps.map pkv))) (hk : PKeys ps) (e : H q = some (.tup [.int (p.1 : Int), .int (p.2 : Int)])) : DPut H a (.ref q) v (upd H a (.dT ((putP ps p v).map pkv))) := by
  have hl : (ps.map pkv).length < sizeLine := by
    have := hk.len
    rw [List.length_map, sizeLine_eq]; omega
  have := DPut.t (v := v) h (PlAt_key e) hl
  rw [putK_pk] at this
  exact this
theorem KnAt.get {H : Hp} {a q : Addr} {k : Pl → Option Nat} {p : Pl} (h : KnAt H a k) (e : H q = some (.tup [.int (p.1 : Int), .int (p.2 : Int)])) : DGet H a (.ref q) ((k p).map fun d => V.int (d : Int)) := by
  obtain ⟨ps, h1, _, h3⟩ := h
  have := DGet.t h1 (PlAt_key e)
  rw [h3 p] at this
  exact this
/-! the frame's own box named: for the inside of a comprehension -/
section
variable {X : Cx} {a b o : Expr} {ta tb to : TE} {pos apos cpos : Pos} {name : Str} {T id : String} {r : V → List V → Hp → VK → Prop}
theorem pe_itk (K : PySem.W.Frag) (hK : X.K = K) (ha : PE X a ta) (hb : PE X b tb) (hs : PlainIx b := by intro _ _; rfl) : PE X (.Subscript a b pos) (tOp (rIxT K) ta tb) := by
  subst hK
  exact pe_ix ix_tup ha hb hs
theorem pe_ilk (K : PySem.W.Frag) (hK : X.K = K) (ha : PE X a ta) (hb : PE X b tb) (hs : PlainIx b := by intro _ _; rfl) : PE X (.Subscript a b pos) (tOp (rIxL K) ta tb) := by
  subst hK
  exact pe_ix ix_list ha hb hs
theorem op_catAk (K : PySem.W.Frag) (hK : X.K = K) : OpR X (binaryOp .Add) (rCatA K) := by
  subst hK
  exact op_catA
theorem op_neDk (K : PySem.W.Frag) (hK : X.K = K) (hu : X.A.units + 64 < cLine) : OpR X (compareOp .NotEq) (rNeD K) := by
  subst hK
  exact op_neD hu
theorem pe_bm0k (K : PySem.W.Frag) (hK : X.K = K) (pa : PlainAttrs T) (slot : Slot T name id) (hty : typeOf (.builtin id) = pure (.type "method_descriptor")) (hm : MtR X id r) (ho : PE X o to)
    (hbase : attributeBase o name X.env (eval o X.env) = eval o X.env := by rfl) (hline : (apos.endLine == cpos.line) = true := by rfl) : PE X (.Call (.Attribute o name apos) [] [] cpos) (tBM0 K T r to) := by
  subst hK
  exact pe_bm0 pa slot hty hm ho hbase hline
end
end K16

set_option Elab.async false
set_option linter.all false
set_option maxRecDepth 100000
namespace K16
open PySem PySem.Spec PyProof.Rows L2
/-! ### skipped -/
abbrev sSkip : Stmt := top 8
def spSkip : Sp := fun vs H Q _ => ∃ (v : V) (a : Addr) (t : Tr) (m : Nat → Nat) (P R : List Pl) (k : Pl → Option Nat), vs = [v, .ref a] ∧ TrAt H v t ∧ KnAt H a k ∧ Wf m P t ∧ KOk m R k ∧ ∀ r, TrAt H r (sk k t) → Q r H
theorem scSkip : FnScope ["tree", "known"] ["tree", "known"] (defScope sSkip) := ⟨rfl, rfl, rfl, by decide +kernel, rfl, by decide +kernel, by decide +kernel⟩
section
variable {P : Program} {w : World} {K : PySem.W.Frag} {mg : Str → Option Value} {base : Heap}
theorem ok_skip (D : Def K mg "skipped" sSkip ["tree", "known"]) : Cal P w K mg base 1 "skipped" spSkip := by
  refine D.ok scSkip (fun vs H Q E h => ?_) (fun f cdv A outer s H vs Q E hr h => ?_)
  · obtain ⟨v, a, t, m, P, R, k, rfl, _⟩ := h
    rfl
  obtain ⟨v, a, t, m, P, R, k, rfl, ht, hk, hw, hko, q⟩ := h
  have hu := hu_of hr
  refine ⟨_, pss_cons (ps_while PassesOwn.never (PW.pt (pw_and (pt_cmpR op_eq (pe_ix ix_tup (pv 0) pe_int (fun _ _ => rfl)) pe_str (nomark _)) (pw_and1 (pt_cmp (pc_din hu (pe_ix ix_tup (pv 0) pe_int (fun _ _ => rfl)) (pv 1)) rfl))))
      (pss_one (ps_set (i := 0) scSkip.nd rfl (Or.inl rfl) (pe_ix ix_tup (pe_ix ix_tup (pv 0) pe_int (fun _ _ => rfl)) (pe_dget hu (pv 1) (pe_ix ix_tup (pv 0) pe_int (fun _ _ => rfl)) (fun _ _ => rfl)) (fun _ _ => rfl)))))
    (pss_one (ps_ret (pv 0))), ?_⟩
  refine ⟨fun n σ H1 => ∃ v t1, σ = [some v, some (.ref a)] ∧ H1 = H ∧ TrAt H v t1 ∧ Wf m P t1 ∧ sk k t1 = sk k t ∧ n = nd t1, ⟨_, v, t, rfl, rfl, ht, hw, rfl, rfl⟩, ?_⟩
  rintro n σ H1 ⟨v1, t1, rfl, rfl, ht1, hw1, hs1, rfl⟩
  cases t1 with
  | fin u =>
    obtain ⟨p, x, rfl, e, _⟩ := ht1.fin
    refine ⟨_, rfl, p, _, _, _, rfl, rfl, SqT.of e, rfl, rfl, _, rfl, itF dec_end_ask (itF rfl ?_)⟩
    exact ⟨_, rfl, q _ (by rw [← hs1]; exact ht1)⟩
  | ask p bs =>
    obtain ⟨p1, r1, b1, xs, rfl, e, er, eb, tb⟩ := ht1.ask
    refine ⟨_, rfl, p1, _, _, _, rfl, rfl, SqT.of e, rfl, rfl, _, rfl, itT (dec_same _) ?_⟩
    refine ⟨_, rfl, p1, _, _, _, rfl, rfl, SqT.of e, rfl, _, rfl, a, _, rfl, hk.get er, _, rfl, ?_⟩
    cases hw1 with
    | ask hp hl hb =>
    cases hkp : k p with
    | none =>
      refine itF rfl ?_
      exact ⟨_, rfl, q _ (by rw [← hs1, sk_none hkp]; exact ht1)⟩
    | some d =>
      have hd : d < bs.length := by rw [hl]; exact (hko p d hkp).2
      have e1 : bs[d]? = some bs[d] := List.getElem?_eq_getElem hd
      obtain ⟨u, hu1, hu2⟩ := TrAt.kid tb e1
      refine itT rfl ⟨_, fun _ _ h => h, ?_⟩
      have hg := hk.get (p := p) er
      rw [hkp] at hg
      refine ⟨_, rfl, p1, _, _, _, rfl, rfl, SqT.of e, rfl, _, rfl, _, rfl, p1, _, _, _, rfl, rfl, SqT.of e, rfl, a, _, rfl, hg, b1, _, _, _, rfl, rfl, SqT.of eb, atI_nat hu1, ?_⟩
      refine ⟨nd bs[d], ?_, u, bs[d], rfl, rfl, hu2, (hb _ (List.getElem_mem hd)).mono fun x hx => (mem_rem.mp hx).1, ?_, rfl⟩
      · exact nd_lt (List.getElem_mem hd)
      · rw [← hs1, sk_some hkp e1]

/-! ### with_answer -/
def spWa : Sp := fun vs H Q _ => ∃ (a q : Addr) (d : Nat) (p : Pl) (k : Pl → Option Nat), vs = [.ref a, .ref q, .int (d : Int)] ∧ KnAt H a k ∧ H q = some (.tup [.int (p.1 : Int), .int (p.2 : Int)]) ∧ p ∈ allPl ∧
  ∀ r H', H r = none → Same H H' → KnAt H' r (kst k p d) → Q (.ref r) H'
abbrev sWa : Stmt := top 9
abbrev NWa : List Str := ["known", "place", "digit", "made"]
theorem scWa : FnScope NWa ["known", "place", "digit"] (defScope sWa) := ⟨rfl, rfl, rfl, by decide +kernel, rfl, by decide +kernel, by decide +kernel⟩
theorem ok_wa (D : Def K mg "with_answer" sWa ["known", "place", "digit"]) (Z : Bi mg) : Cal P w K mg base 1 "with_answer" spWa := by
  refine D.ok scWa (fun vs H Q E h => ?_) (fun f cdv A outer s H vs Q E hr h => ?_)
  · obtain ⟨a, q, d, p, k, rfl, _⟩ := h
    rfl
  obtain ⟨a, q, d, p, k, rfl, ⟨ps, hH, hk, ht⟩, hq, hp, kq⟩ := h
  have hu := hu_of hr
  have hu64 := hr.units
  refine ⟨_, (pss_cons (ps_set (i := 3) scWa.nd rfl (Or.inl rfl) (pe_callTy (cr_copyT hu64) (by rfl) Z.dict (by decide +kernel) (pa_cons (pv 0) pa_nil)))
    (pss_cons (ps_dput hu (pv 3) (pv 1) (pv 2) rfl)
    (pss_one (ps_ret (pv 3))))), ?_⟩
  refine ⟨_, rfl, a, ps, rfl, hH, hk, fun r hr0 => ?_⟩
  have hq1 : upd H r (.dT (ps.map pkv)) q = some (.tup [.int (p.1 : Int), .int (p.2 : Int)]) := TK.new hr0 _ _ _ hq
  refine ⟨_, rfl, _, rfl, _, rfl, r, _, rfl, PD_put upd_same hk hq1, _, rfl, ?_⟩
  rw [upd_upd]
  exact kq r _ hr0 (Same.new hr0 _) ⟨_, upd_same, hk.put hp _, ht.put p d⟩

/-! ### given_node, as the node of a state -/
def spStep (step : Tr → Tr) (Dom : Tr → Prop) (Ctx : Hp → V → Prop) : Sp := fun vs H Q _ => ∃ (c v : V) (t : Tr), vs = [c, v] ∧ Ctx H c ∧ TrAt H v t ∧ Dom t ∧ ∀ r H', Same H H' → TrAt H' r (step t) → Q r H'
def CtxOne (p : Pl) (d : Nat) : Hp → V → Prop := fun H c => ∃ a, c = .ref a ∧ KnAt H a (one p d)
abbrev sGn : Stmt := top 10
abbrev NGn : List Str := ["context", "tree"]
theorem scGn : FnScope NGn ["context", "tree"] (defScope sGn) := ⟨rfl, rfl, rfl, by decide +kernel, rfl, by decide +kernel, by decide +kernel⟩
theorem ok_gn {m : Nat → Nat} {R : List Pl} {p : Pl} {d : Nat} (hp : p ∈ R) (hd : d < m p.2) (D : Def K mg "given_node" sGn ["context", "tree"]) (C_skipped : Cal P w K mg base 1 "skipped" spSkip) :
    Cal P w K mg base 2 "given_node" (spStep (sk (one p d)) (Wf m R) (CtxOne p d)) := by
  refine D.ok scGn (fun vs H Q E h => ?_) (fun f cdv A outer s H vs Q E hr h => ?_)
  · obtain ⟨c, v, t, rfl, _⟩ := h
    rfl
  obtain ⟨c, v, t, rfl, ⟨a, rfl, hk⟩, ht, hw, kq⟩ := h
  refine ⟨_, (pss_one (ps_ret (pe_cal C_skipped (hr.mono (by omega)) (pa_cons (pv 1) (pa_cons (pv 0) pa_nil))))), ?_⟩
  refine ⟨_, rfl, _, rfl, v, a, t, m, R, R, one p d, rfl, ht, hk, hw, ?_, fun r hr => kq r H (Same.refl H) hr⟩
  intro q e he
  unfold one at he
  split at he
  · rename_i h; cases he; subst h; exact ⟨hp, hd⟩
  · cases he
end
end K16

set_option Elab.async false
set_option linter.all false
set_option maxRecDepth 100000
set_option maxHeartbeats 4000000
/-! Pairs of values and meanings; comprehensions whose elements only add. -/
namespace K16
open PySem PySem.Spec PyProof.Rows L2
theorem Paired.imp {α β : Type} {F G : α → β → Prop} : ∀ {l : List α} {k : List β}, Paired F l k → (∀ a b, F a b → G a b) → Paired G l k
  | _, _, .nil, _ => .nil
  | _, _, .cons a t, f => .cons (f _ _ a) (Paired.imp t f)
theorem Paired.append {α β : Type} {F : α → β → Prop} : ∀ {l l2 : List α} {k k2 : List β}, Paired F l k → Paired F l2 k2 → Paired F (l ++ l2) (k ++ k2)
  | _, _, _, _, .nil, h => h
  | _, _, _, _, .cons a t, h => .cons a (Paired.append t h)
theorem Paired.len {α β : Type} {F : α → β → Prop} {l : List α} {k : List β} (h : Paired F l k) : l.length = k.length := by
  induction h with
  | nil => rfl
  | cons _ _ ih => rw [List.length_cons, List.length_cons, ih]
theorem Paired.rev {α β : Type} {F : α → β → Prop} {l : List α} {k : List β} (h : Paired F l k) : Paired F l.reverse k.reverse := by
  induction h with
  | nil => exact .nil
  | cons a _ ih => rw [List.reverse_cons, List.reverse_cons]; exact Paired.append ih (.cons a .nil)
theorem Paired.takeN {α β : Type} {F : α → β → Prop} : ∀ (n : Nat) {l : List α} {k : List β}, Paired F l k → Paired F (l.take n) (k.take n)
  | 0, _, _, _ => .nil
  | _ + 1, _, _, .nil => .nil
  | n + 1, _, _, .cons a t => .cons a (Paired.takeN n t)
theorem Paired.dropN {α β : Type} {F : α → β → Prop} : ∀ (n : Nat) {l : List α} {k : List β}, Paired F l k → Paired F (l.drop n) (k.drop n)
  | 0, _, _, h => h
  | _ + 1, _, _, .nil => .nil
  | n + 1, _, _, .cons a t => Paired.dropN n t
theorem Paired.nth {α β : Type} {F : α → β → Prop} : ∀ {l : List α} {k : List β}, Paired F l k → ∀ {i : Nat} {b : β}, k[i]? = some b → ∃ a, l[i]? = some a ∧ F a b
  | _, _, .nil, i, b, h => by simp at h
  | _, _, .cons a t, 0, b, h => by
    rw [List.getElem?_cons_zero] at h
    cases h
    exact ⟨_, rfl, a⟩
  | _, _, .cons a t, i + 1, b, h => by
    rw [List.getElem?_cons_succ] at h
    exact Paired.nth t h
theorem Paired.nth' {α β : Type} {F : α → β → Prop} : ∀ {l : List α} {k : List β}, Paired F l k → ∀ {i : Nat} {a : α}, l[i]? = some a → ∃ b, k[i]? = some b ∧ F a b
  | _, _, .nil, i, b, h => by simp at h
  | _, _, .cons a t, 0, b, h => by
    rw [List.getElem?_cons_zero] at h
    cases h
    exact ⟨_, rfl, a⟩
  | _, _, .cons a t, i + 1, b, h => by
    rw [List.getElem?_cons_succ] at h
    exact Paired.nth' t h
theorem Paired.mapR {α β γ : Type} {F : α → γ → Prop} {f : β → γ} : ∀ {l : List α} {k : List β}, Paired (fun a b => F a (f b)) l k → Paired F l (k.map f)
  | _, _, .nil => .nil
  | _, _, .cons a t => .cons a (Paired.mapR t)
theorem Paired.unmapR {α β γ : Type} {F : α → γ → Prop} {f : β → γ} : ∀ {l : List α} {k : List β}, Paired F l (k.map f) → Paired (fun a b => F a (f b)) l k
  | _, [], h => by cases h; exact .nil
  | _, _ :: _, h => by cases h with | cons a t => exact .cons a (Paired.unmapR t)
theorem Paired.snoc {α β : Type} {F : α → β → Prop} {l : List α} {k : List β} {a : α} {b : β} (h : Paired F l k) (x : F a b) : Paired F (l ++ [a]) (k ++ [b]) := Paired.append h (.cons x .nil)
theorem Paired.tsA {H : Hp} : ∀ {vs : List V} {ds : List PyData}, Paired (Ts H) vs ds → TsA H vs ds
  | _, _, .nil => .nil
  | _, _, .cons a t => .cons a (Paired.tsA t)
theorem TsA.paired {H : Hp} : ∀ {ds : List PyData} {vs : List V}, TsA H vs ds → Paired (Ts H) vs ds
  | [], _, h => by cases h; exact .nil
  | _ :: _, _, h => by cases h with | cons a b => exact .cons a (TsA.paired b)
theorem tsA_of {H : Hp} {vs : List V} {ts : List Tr} (h : Paired (TrAt H) vs ts) : TsA H vs (ts.map tr) := Paired.tsA (Paired.mapR (f := tr) h)
theorem of_tsA {H : Hp} {vs : List V} {ts : List Tr} (h : TsA H vs (ts.map tr)) : Paired (TrAt H) vs ts := Paired.unmapR (f := tr) h.paired
theorem le_line {n : Nat} (h : n ≤ 1000000) : n ≤ sizeLine := by rw [sizeLine_eq]; omega
theorem lt_line {n : Nat} (h : n ≤ 1000000) : n < sizeLine := by rw [sizeLine_eq]; omega
theorem take_one {α : Type} {l : List α} {i : Nat} {a : α} (h : l[i]? = some a) : l.take (i + 1) = l.take i ++ [a] := by
  rw [List.take_succ, h]; rfl
/-- told in any heap that keeps the tuples -/
def Keeps {α : Type} (F : Hp → V → α → Prop) : Prop := ∀ H H' v a, TK H H' → F H v a → F H' v a
theorem keeps_ts {α : Type} (f : α → PyData) : Keeps fun H v a => Ts H v (f a) := fun _ _ _ _ k h => Ts.keep k _ _ h
theorem keeps_tr : Keeps TrAt := fun _ _ _ _ k h => Ts.keep k _ _ h
/-- all stands but lists -/
def TD (H H' : Hp) : Prop := ∀ b o, (∀ ys, o ≠ HO.lst ys) → H b = some o → H' b = some o
theorem TD.tk {H H' : Hp} (h : TD H H') : TK H H' := fun b xs e => h b _ (fun _ z => nomatch z) e
theorem TD.of {H H' : Hp} (s : Same H H') : TD H H' := fun b o _ e => s b o e
theorem TD.refl (H : Hp) : TD H H := fun _ _ _ e => e
theorem TD.trans {H H1 H2 : Hp} (a : TD H H1) (b : TD H1 H2) : TD H H2 := fun c o n e => b c o n (a c o n e)
theorem TD.new {H : Hp} {p : Addr} (h : H p = none) (o : HO) : TD H (upd H p o) := TD.of (Same.new h o)
theorem TD.lst {H : Hp} {p : Addr} {ys : List V} (h : H p = some (.lst ys)) (o : HO) : TD H (upd H p o) := fun b x n e => by
  have : b ≠ p := fun z => by rw [z, h] at e; exact n ys (Option.some.inj e).symm
  rw [upd_ne this]; exact e
def KeepsD {α : Type} (F : Hp → V → α → Prop) : Prop := ∀ H H' v a, TD H H' → F H v a → F H' v a
theorem Keeps.d {α : Type} {F : Hp → V → α → Prop} (k : Keeps F) : KeepsD F := fun _ _ _ _ t h => k _ _ _ _ t.tk h
theorem Paired.keepD {α : Type} {F : Hp → V → α → Prop} (kf : KeepsD F) {H H' : Hp} (k : TD H H') {vs : List V} {ts : List α} (h : Paired (F H) vs ts) : Paired (F H') vs ts := Paired.imp h fun _ _ q => kf _ _ _ _ k q
theorem Paired.keep {α : Type} {F : Hp → V → α → Prop} (kf : Keeps F) {H H' : Hp} (k : TK H H') {vs : List V} {ts : List α} (h : Paired (F H) vs ts) : Paired (F H') vs ts := Paired.imp h fun _ _ q => kf _ _ _ _ k q
theorem Same.lst {H1 H : Hp} {D : Addr} {o : HO} (s : Same H1 H) (h : H1 D = none) : Same H1 (upd H D o) := fun b x e => by
  have hb : b ≠ D := fun z => by rw [z, h] at e; cases e
  rw [upd_ne hb]; exact s b x e
section
variable {g : TG} {te : TE} {vs : List Nat} {σ : L2.St} {H1 : Hp} {D : Addr} {Qd : Hp → Prop} {α : Type} {F : Hp → V → α → Prop}
/-- the list under way: l its meanings -/
def LW (F : Hp → V → α → Prop) (H1 : Hp) (D : Addr) (l : List α) (i : Nat) (H : Hp) : Prop := Same H1 H ∧ ∃ acc, H D = some (.lst acc) ∧ Paired (F H) acc (l.take i)
theorem LW.zero (hD : H1 D = none) (l : List α) : LW F H1 D l 0 (upd H1 D (.lst [])) := ⟨Same.new hD _, [], upd_same, by simpa using Paired.nil⟩
theorem LW.turn (kf : KeepsD F) (hD : H1 D = none) {l : List α} {i : Nat} {a : α} {H H4 : Hp} {y : V} (w : LW F H1 D l i H) (s : Same H H4) (hl : l.length ≤ 1000000) (ha : l[i]? = some a) (h : F H4 y a) :
    ∃ acc, H4 D = some (.lst acc) ∧ acc.length < sizeLine ∧ LW F H1 D l (i + 1) (upd H4 D (.lst (acc ++ [y]))) := by
  obtain ⟨s1, acc, e, p⟩ := w
  have hk : TD H4 (upd H4 D (.lst (acc ++ [y]))) := TD.lst (s _ _ e) _
  have hn : acc.length < l.length := by
    rw [Paired.len p, List.length_take]
    have := (List.getElem?_eq_some_iff.mp ha).1
    omega
  refine ⟨acc, s _ _ e, lt_line (by omega), Same.lst (s1.trans s) hD, _, upd_same, ?_⟩
  rw [take_one ha]
  exact Paired.keepD kf hk (Paired.snoc (Paired.keepD kf (TD.of s) p) h)
theorem lc_rangeM {n j : Nat} (kf : KeepsD F) (l : List α) (hn : l.length = n) (hl : n ≤ 1000000) (hD : H1 D = none)
    (hs : ∀ (i : Nat) H a, l[i]? = some a → Same H1 H → ∀ Q : VK, (∀ y H4, Same H H4 → F H4 y a → Q y H4) → wipe ((wipe σ vs).set j (some (.int (i : Nat)))) vs = wipe σ vs ∧ te ((wipe σ vs).set j (some (.int (i : Nat)))) H Q)
    (hd : ∀ H acc, Same H1 H → H D = some (.lst acc) → Paired (F H) acc l → Qd H) :
    ∃ W : Nat → Nat → Hp → Prop, (∃ m, W 0 m (upd H1 D (.lst []))) ∧ ∀ i m H, W i m H →
      ((Itr 0 n).stop i H ∧ Qd H) ∨ ((Itr 0 n).go i H ∧ ∃ Nx : Hp → Prop, (∀ H', Nx H' → ∃ m', m' < m ∧ W (i + 1) m' H') ∧ ∀ x H', (Itr 0 n).yld i H x H' → gName j x (wipe σ vs) H' fun σ2 H2 => wipe σ2 vs = wipe σ vs ∧ tYes σ2 H2 fun b H3 =>
        if b = true then te σ2 H3 fun y H4 => ∃ acc, H4 D = some (.lst acc) ∧ acc.length < sizeLine ∧ Nx (upd H4 D (.lst (acc ++ [y]))) else Nx H3) := by
  subst hn
  refine lc_range (g := gName j) (tt := tYes) (LW F H1 D l) (LW.zero hD l) (fun i H hi w => ?_) (fun H w => ?_)
  · have ha : l[i]? = some l[i] := List.getElem?_eq_getElem hi
    rw [Int.zero_add]
    exact hs i H _ ha w.1 _ fun y H4 s f => LW.turn kf hD w s (by omega) ha f
  · obtain ⟨s, acc, e, p⟩ := w
    rw [List.take_length] at p
    exact hd H acc s e p
/-- over a tuple's or a list's items, the target one name -/
theorem lc_tupM {a0 : Addr} {xs : List V} {j : Nat} (kf : KeepsD F) (l : List α) (hn : l.length = xs.length) (hl : xs.length ≤ 1000000) (hD : H1 D = none) (hsrc : H1 a0 = some (.tup xs))
    (hs : ∀ (i : Nat) x H a, xs[i]? = some x → l[i]? = some a → Same H1 H → ∀ Q : VK, (∀ y H4, Same H H4 → F H4 y a → Q y H4) → wipe ((wipe σ vs).set j (some x)) vs = wipe σ vs ∧ te ((wipe σ vs).set j (some x)) H Q)
    (hd : ∀ H acc, Same H1 H → H D = some (.lst acc) → Paired (F H) acc l → Qd H) {K : PySem.W.Frag} :
    ∃ W : Nat → Nat → Hp → Prop, (∃ m, W 0 m (upd H1 D (.lst []))) ∧ ∀ i m H, W i m H →
      ((Itt K a0).stop i H ∧ Qd H) ∨ ((Itt K a0).go i H ∧ ∃ Nx : Hp → Prop, (∀ H', Nx H' → ∃ m', m' < m ∧ W (i + 1) m' H') ∧ ∀ x H', (Itt K a0).yld i H x H' → gName j x (wipe σ vs) H' fun σ2 H2 => wipe σ2 vs = wipe σ vs ∧ tYes σ2 H2 fun b H3 =>
        if b = true then te σ2 H3 fun y H4 => ∃ acc, H4 D = some (.lst acc) ∧ acc.length < sizeLine ∧ Nx (upd H4 D (.lst (acc ++ [y]))) else Nx H3) := by
  refine lc_tup (g := gName j) (tt := tYes) (LW F H1 D l) (LW.zero hD l) (fun i H _ w => SqT.of (w.1 _ _ hsrc)) (fun i x H hx w => ?_) (fun H w => ?_)
  · have hi : i < l.length := by
      have := (List.getElem?_eq_some_iff.mp hx).1
      omega
    have ha : l[i]? = some l[i] := List.getElem?_eq_getElem hi
    exact hs i x H _ hx ha w.1 _ fun y H4 s f => LW.turn kf hD w s (by omega) ha f
  · obtain ⟨s, acc, e, p⟩ := w
    rw [← hn, List.take_length] at p
    exact hd H acc s e p
theorem lc_listM {a0 : Addr} {xs : List V} {j : Nat} (kf : KeepsD F) (l : List α) (hn : l.length = xs.length) (hl : xs.length ≤ 1000000) (hD : H1 D = none) (hsrc : H1 a0 = some (.lst xs))
    (hs : ∀ (i : Nat) x H a, xs[i]? = some x → l[i]? = some a → Same H1 H → ∀ Q : VK, (∀ y H4, Same H H4 → F H4 y a → Q y H4) → wipe ((wipe σ vs).set j (some x)) vs = wipe σ vs ∧ te ((wipe σ vs).set j (some x)) H Q)
    (hd : ∀ H acc, Same H1 H → H D = some (.lst acc) → Paired (F H) acc l → Qd H) {K : PySem.W.Frag} :
    ∃ W : Nat → Nat → Hp → Prop, (∃ m, W 0 m (upd H1 D (.lst []))) ∧ ∀ i m H, W i m H →
      ((Itl K a0).stop i H ∧ Qd H) ∨ ((Itl K a0).go i H ∧ ∃ Nx : Hp → Prop, (∀ H', Nx H' → ∃ m', m' < m ∧ W (i + 1) m' H') ∧ ∀ x H', (Itl K a0).yld i H x H' → gName j x (wipe σ vs) H' fun σ2 H2 => wipe σ2 vs = wipe σ vs ∧ tYes σ2 H2 fun b H3 =>
        if b = true then te σ2 H3 fun y H4 => ∃ acc, H4 D = some (.lst acc) ∧ acc.length < sizeLine ∧ Nx (upd H4 D (.lst (acc ++ [y]))) else Nx H3) := by
  refine lc_list (g := gName j) (tt := tYes) (LW F H1 D l) (LW.zero hD l) (fun i H _ w => SqL.of (w.1 _ _ hsrc)) (fun i x H hx w => ?_) (fun H w => ?_)
  · have hi : i < l.length := by
      have := (List.getElem?_eq_some_iff.mp hx).1
      omega
    have ha : l[i]? = some l[i] := List.getElem?_eq_getElem hi
    exact hs i x H _ hx ha w.1 _ fun y H4 s f => LW.turn kf hD w s (by omega) ha f
  · obtain ⟨s, acc, e, p⟩ := w
    rw [← hn, List.take_length] at p
    exact hd H acc s e p
end
/-! ### heaps step by step -/
theorem Same.gone {H H1 : Hp} (s : Same H H1) {p : Addr} (h : H1 p = none) : H p = none := by
  cases e : H p with
  | none => rfl
  | some o => rw [s p o e] at h; cases h
theorem Same.eqn {H H1 : Hp} {p : Addr} {o : HO} (h : H p = none) (e : upd H p o = H1) : Same H H1 ∧ H1 p = some o := by
  subst e
  exact ⟨Same.new h _, upd_same⟩
theorem ne_som {H : Hp} {p q : Addr} {o : HO} (h : H p = some o) (h2 : H q = none) : p ≠ q := fun z => by rw [z, h2] at h; cases h
/-- what stands elsewhere stands on -/
theorem upd_at {H : Hp} {a b : Addr} {o x : HO} (h : H b = some x) (n : b ≠ a) : upd H a o b = some x := by rw [upd_ne n]; exact h
theorem tru_l {K : PySem.W.Frag} {H : Hp} {p : Addr} {xs : List V} (h : H p = some (.lst xs)) : TruV K (.ref p) H (!xs.isEmpty) := .inl ⟨xs, SqL.of h, rfl⟩
theorem ty_l {K : PySem.W.Frag} {H : Hp} {p : Addr} {xs : List V} (h : H p = some (.lst xs)) : tyV K "list" (.ref p) H := .inl ⟨rfl, xs, SqL.of h⟩
/-- all stands but what is named -/
def SameBut (ms : List Addr) (H H' : Hp) : Prop := ∀ b o, b ∉ ms → H b = some o → H' b = some o
theorem SameBut.refl (ms : List Addr) (H : Hp) : SameBut ms H H := fun _ _ _ h => h
theorem SameBut.trans {ms : List Addr} {H H1 H2 : Hp} (a : SameBut ms H H1) (b : SameBut ms H1 H2) : SameBut ms H H2 := fun c o n h => b c o n (a c o n h)
theorem SameBut.of {ms : List Addr} {H H1 : Hp} (a : Same H H1) : SameBut ms H H1 := fun c o _ h => a c o h
theorem SameBut.put {ms : List Addr} {H H1 : Hp} {a : Addr} {o : HO} (h : SameBut ms H H1) (ha : a ∈ ms) : SameBut ms H (upd H1 a o) := fun c x n e => by
  have : c ≠ a := fun z => n (z ▸ ha)
  rw [upd_ne this]; exact h c x n e
theorem SameBut.putN {ms : List Addr} {H H1 : Hp} {a : Addr} {o : HO} (h : SameBut ms H H1) (ha : H a = none) : SameBut ms H (upd H1 a o) := fun c x n e => by
  rw [upd_ne (ne_som e ha)]; exact h c x n e
theorem SameBut.same {ms : List Addr} {H H0 H1 : Hp} (h : SameBut ms H H1) (s : Same H0 H) (hm : ∀ a ∈ ms, H0 a = none) : Same H0 H1 := fun c x e => h c x (fun z => by rw [hm c z] at e; cases e) (s c x e)
def NoTup (H : Hp) (a : Addr) : Prop := ∀ xs, H a ≠ some (.tup xs)
theorem SameBut.tk {ms : List Addr} {H H1 : Hp} (h : SameBut ms H H1) (hm : ∀ a ∈ ms, NoTup H a) : TK H H1 := fun b xs e => h b _ (fun z => hm b z xs e) e
theorem noTup_l {H : Hp} {a : Addr} {xs : List V} (h : H a = some (.lst xs)) : NoTup H a := fun ys e => by rw [h] at e; cases e
theorem noTup_none {H : Hp} {a : Addr} (h : H a = none) : NoTup H a := fun ys e => by rw [h] at e; cases e
end K16

set_option Elab.async false
set_option linter.all false
set_option maxRecDepth 100000
set_option maxHeartbeats 4000000
/-! grown: a tree that grows from a state, by any def that tells a state's node. -/
namespace K16
open PySem PySem.Spec PyProof.Rows L2
variable {P : Program} {w : World} {K : PySem.W.Frag} {mg : Str → Option Value} {base : Heap}

theorem pop_get {α : Type} (v : α) (vs : List α) : ((v :: vs).reverse)[((v :: vs).reverse).length - 1]? = some v := by
  rw [List.reverse_cons, List.length_append, List.length_singleton, Nat.add_sub_cancel, List.getElem?_append_right (Nat.le_refl _), Nat.sub_self]; rfl
theorem pop_rest {α : Type} (v : α) (vs : List α) : ((v :: vs).reverse).dropLast = vs.reverse := by
  rw [List.reverse_cons, List.dropLast_concat]
theorem rev_empty {α : Type} (vs : List α) : (!vs.reverse.isEmpty) = !vs.isEmpty := by cases vs <;> simp

/-- a task: a state that is to grow to a tree, or branches to be joined -/
inductive Tk where
  | go (s u : Tr)
  | join (p : Pl) (n : Nat)
def TkAt (H : Hp) (v : V) : Tk → Prop
  | .go s _ => ∃ q x, v = .ref q ∧ H q = some (.tup [.str "go", x]) ∧ TrAt H x s
  | .join p n => ∃ q r, v = .ref q ∧ H q = some (.tup [.str "join", .ref r, .int (n : Int)]) ∧ H r = some (.tup [.int (p.1 : Int), .int (p.2 : Int)])
theorem TkAt.keep {H H' : Hp} (k : TK H H') {v : V} : ∀ {t : Tk}, TkAt H v t → TkAt H' v t
  | .go _ _, ⟨q, x, h1, h2, h3⟩ => ⟨q, x, h1, k _ _ h2, Ts.keep k _ _ h3⟩
  | .join _ _, ⟨q, r, h1, h2, h3⟩ => ⟨q, r, h1, k _ _ h2, k _ _ h3⟩
def exec : List Tk → List Tr → List Tr
  | [], made => made
  | .go _ u :: ts, made => exec ts (u :: made)
  | .join p n :: ts, made => exec ts (.ask p (made.take n).reverse :: made.drop n)
def fits : List Tk → Nat → Prop
  | [], _ => True
  | .go _ _ :: ts, c => fits ts (c + 1)
  | .join _ n :: ts, c => n ≤ c ∧ fits ts (c - n + 1)
def cnt : List Tk → Nat
  | [] => 0
  | .go _ u :: ts => nd u + cnt ts
  | .join _ _ :: ts => cnt ts
def joins : List Tk → Nat
  | [] => 0
  | .go _ _ :: ts => joins ts
  | .join _ _ :: ts => joins ts + 1
def msr : List Tk → Nat
  | [] => 0
  | .go _ u :: ts => 2 * nd u + msr ts
  | .join _ _ :: ts => 1 + msr ts
theorem len_msr : ∀ ts : List Tk, ts.length ≤ msr ts
  | [] => Nat.le_refl _
  | .go _ u :: ts => by
    have := len_msr ts
    have := nd_pos u
    rw [msr, List.length_cons]; omega
  | .join _ _ :: ts => by
    have := len_msr ts
    rw [msr, List.length_cons]; omega
theorem msr_le : ∀ ts : List Tk, msr ts = 2 * cnt ts + joins ts
  | [] => rfl
  | .go _ u :: ts => by rw [msr, cnt, joins, msr_le ts]; omega
  | .join _ _ :: ts => by rw [msr, cnt, joins, msr_le ts]; omega
/-- the branches of a question as tasks -/
def gos : List Tr → List Tr → List Tk
  | s :: ss, u :: us => .go s u :: gos ss us
  | _, _ => []
theorem gos_exec : ∀ {ss us : List Tr} (ts : List Tk) (made : List Tr), us.length = ss.length → exec (gos ss us ++ ts) made = exec ts (us.reverse ++ made)
  | [], [], ts, made, _ => rfl
  | s :: ss, u :: us, ts, made, h => by
    rw [gos, List.cons_append, exec, gos_exec ts (u :: made) (by simpa using h), List.reverse_cons, List.append_assoc]; rfl
  | [], _ :: _, _, _, h => by simp at h
  | _ :: _, [], _, _, h => by simp at h
theorem gos_fits : ∀ {ss us : List Tr} (ts : List Tk) (c : Nat), us.length = ss.length → (fits (gos ss us ++ ts) c ↔ fits ts (c + us.length))
  | [], [], ts, c, _ => Iff.rfl
  | s :: ss, u :: us, ts, c, h => by
    rw [gos, List.cons_append, fits, gos_fits ts (c + 1) (by simpa using h), List.length_cons]
    have : c + 1 + us.length = c + (us.length + 1) := by omega
    rw [this]
  | [], _ :: _, _, _, h => by simp at h
  | _ :: _, [], _, _, h => by simp at h
theorem gos_cnt : ∀ {ss us : List Tr} (ts : List Tk), us.length = ss.length → cnt (gos ss us ++ ts) = nds us + cnt ts ∧ joins (gos ss us ++ ts) = joins ts ∧ msr (gos ss us ++ ts) = 2 * nds us + msr ts
  | [], [], ts, _ => by simp [gos, nds]
  | s :: ss, u :: us, ts, h => by
    obtain ⟨h1, h2, h3⟩ := gos_cnt (ss := ss) (us := us) ts (by simpa using h)
    rw [gos, List.cons_append, cnt, joins, msr, h1, h2, h3, nds]
    refine ⟨by omega, rfl, by omega⟩
  | [], _ :: _, _, h => by simp at h
  | _ :: _, [], _, h => by simp at h
theorem gos_mem : ∀ {ss us : List Tr} {x : Tk}, x ∈ gos ss us → ∃ (i : Nat) (s u : Tr), ss[i]? = some s ∧ us[i]? = some u ∧ x = .go s u
  | [], _, _, h => by simp [gos] at h
  | _ :: _, [], _, h => by simp [gos] at h
  | s :: ss, u :: us, x, h => by
    rw [gos] at h
    rcases List.mem_cons.mp h with h | h
    · exact ⟨0, s, u, rfl, rfl, h⟩
    · obtain ⟨i, s', u', h1, h2, h3⟩ := gos_mem h
      exact ⟨i + 1, s', u', by simpa using h1, by simpa using h2, h3⟩
theorem gos_at {H : Hp} : ∀ {vs : List V} {ss us : List Tr}, Paired (fun v s => ∃ q x, v = V.ref q ∧ H q = some (.tup [.str "go", x]) ∧ TrAt H x s) vs ss → us.length = ss.length → Paired (TkAt H) vs (gos ss us)
  | _, [], [], .nil, _ => .nil
  | _, s :: ss, u :: us, .cons a t, h => .cons a (gos_at t (by simpa using h))
  | _, [], _ :: _, _, h => by simp at h
  | _, _ :: _, [], _, h => by simp at h

theorem nds_len : ∀ us : List Tr, us.length ≤ nds us
  | [] => Nat.le_refl _
  | u :: us => by
    have := nds_len us
    have := nd_pos u
    rw [nds, List.length_cons]; omega
def GoAt (H : Hp) (v : V) (s : Tr) : Prop := ∃ q x, v = V.ref q ∧ H q = some (.tup [.str "go", x]) ∧ TrAt H x s
theorem keeps_go : Keeps GoAt := fun _ _ _ _ k ⟨q, x, h1, h2, h3⟩ => ⟨q, x, h1, k _ _ h2, Ts.keep k _ _ h3⟩
/-! ### the walk -/
def spGrown (fE : Addr) (step : Tr → Tr) (Dom : Tr → Prop) (Ctx : Hp → V → Prop) : Sp := fun vs H Q _ => ∃ (c v mo : V) (t u : Tr), vs = [.ref fE, c, v, mo] ∧ (mo = .non ∨ mo = .int 2000) ∧ Ctx H c ∧ TrAt H v t ∧ Dom t ∧ Gr step t u ∧ nd u ≤ 2000 ∧
  ∀ r H', Same H H' → TrAt H' r u → Q r H'
abbrev sGr : Stmt := top 5
abbrev NGr : List Str := ["expand", "context", "start", "most", "tasks", "made", "count", "task", "branches", "node", "at", "state"]
theorem scGr : FnScope NGr ["expand", "context", "start", "most"] (defScope sGr) := ⟨rfl, rfl, rfl, by decide +kernel, rfl, by decide +kernel, by decide +kernel⟩
theorem dec_go_join : decide (V.str "go" = V.str "join") = false := by decide +kernel
theorem if_most {D : Ends} {σ : L2.St} {H : Hp} {mo : V} {c : Nat} (hmo : mo = .non ∨ mo = .int 2000) (h3 : σ[3]? = some (some mo)) (h6 : σ[6]? = some (some (.int ((c : Int) + 1)))) (hc : c + 1 ≤ 2000) (h : D.nx σ H) :
    tIfS (tAnd (tB (tNotN (tVar 3))) (tTest (tOp (rI0 fun i j => V.bl (decide (j < i))) (tVar 6) (tVar 3)))) tNever tNext D σ H := by
  rcases hmo with rfl | rfl
  · exact ⟨_, h3, _, rfl, itF rfl (itF rfl h)⟩
  · refine ⟨_, h3, _, rfl, itT rfl ⟨_, h6, _, h3, _, _, rfl, rfl, _, rfl, itF (decide_eq_false (by omega)) h⟩⟩
/-- the loop's word -/
structure GW (fE : Addr) (cv v mo : V) (step : Tr → Tr) (Dom : Tr → Prop) (H0 : Hp) (u : Tr) (n : Nat) (σ : L2.St) (H : Hp) (tl ml : Addr) (vs ys : List V) (ts : List Tk) (ms : List Tr) (c : Nat) (x7 x8 x9 x10 x11 : Option V) : Prop where
  sl : σ = [some (.ref fE), some cv, some v, some mo, some (.ref tl), some (.ref ml), some (.int (c : Int)), x7, x8, x9, x10, x11]
  same : Same H0 H
  t0 : H0 tl = none
  m0 : H0 ml = none
  ne : tl ≠ ml
  tt : H tl = some (.lst vs.reverse)
  mm : H ml = some (.lst ys.reverse)
  pt : Paired (TkAt H) vs ts
  pm : Paired (TrAt H) ys ms
  ex : exec ts ms = [u]
  fit : fits ts ms.length
  all : ∀ x ∈ ts, ∀ s w, x = .go s w → Gr step s w ∧ Dom s
  cn : c + cnt ts = nd u
  jn : ms.length + joins ts ≤ c
  me : n = msr ts
theorem ok_grown {step : Tr → Tr} {Dom : Tr → Prop} {Ctx : Hp → V → Prop} {fE : Addr} {fdE : FuncData} {psE : List Str} {k : Nat} (D : Def K mg "grown" sGr ["expand", "context", "start", "most"]) (Z : Bi mg)
    (FE : FnOk P w K mg base CX0 k fE fdE psE (spStep step Dom Ctx)) (kE : PySem.W.keepIn K (.ref fE) = true) (bE : Binds K fdE psE []) (hctx : ∀ H H' c, Same H H' → Ctx H c → Ctx H' c)
    (hdom : ∀ t p ss, Dom t → step t = .ask p ss → ∀ s ∈ ss, Dom s) : Cal P w K mg base (k + 1) "grown" (spGrown fE step Dom Ctx) := by
  refine D.ok scGr (fun vs H Q E h => ?_) (fun f cdv A outer s H vs Q E hr h => ?_)
  · obtain ⟨c, v, mo, t, u, rfl, _⟩ := h
    rfl
  obtain ⟨cv, v, mo, t, u, rfl, hmo, hc, ht, hd, hg, hnd, kq⟩ := h
  have hu := hu_of hr
  refine ⟨_, (pss_cons (ps_asg (pe_tup (pa_cons (pe_lst (pa_cons (pe_tup (pa_cons pe_str (pa_cons (pv 2) pa_nil))) pa_nil)) (pa_cons (pe_lst pa_nil) (pa_cons pe_int pa_nil)))) (pg_tup rfl (pgs_cons (pg_name (i := 4) scGr.nd rfl (Or.inl rfl)) (pgs_cons (pg_name (i := 5) scGr.nd rfl (Or.inr rfl)) (pgs_cons (pg_name (i := 6) scGr.nd rfl (Or.inl rfl)) pgs_nil)))))
    (pss_cons (ps_while PassesOwn.never (pt_truth (pv 4) (by intro _; rfl)) (pss_cons (ps_set (i := 7) scGr.nd rfl (Or.inl rfl) (pe_bm0 PySem.F.plainAttrs_list PySem.F.slot_list_pop PySem.F.type_list_pop mt_pop (pv 4)))
    (pss_cons (ps_if (pt_cmpR op_eq (pe_it (pv 7) pe_int) pe_str (nomark _)) (pss_cons (ps_setLc (i := 8) (own := [("at", 10)]) (g := gName 10) (tt := tYes) rfl scGr.nd rfl rfl (sw_true rfl rfl rfl (by decide +kernel)) (pi_range1 (by rfl) Z.range (pa_cons (pe_it (pv 7) pe_int) pa_nil)) (blkOk_by (own := [("at", 10)]) (N := NGr) (sc := defScope sGr) (by decide +kernel)) (fun _ _ _ _ _ => (pg_name (i := 10) scGr.nd rfl (Or.inl rfl))) (fun _ _ _ _ _ => pts_nil) (fun _ _ _ _ _ => by exact (pe_bm0k K rfl PySem.F.plainAttrs_list PySem.F.slot_list_pop PySem.F.type_list_pop mt_pop (pv 5))))
    (pss_cons (ps_expr (pe_bm PySem.F.plainAttrs_list PySem.F.slot_list_append PySem.F.type_list_append mt_append (pv 5) (pa_cons (pe_tup (pa_cons pe_str (pa_cons (pe_it (pv 7) pe_int) (pa_cons (pe_callTy call_tuple_of (by rfl) Z.tuple (by decide +kernel) (pa_cons (pe_revL (pv 8)) pa_nil)) pa_nil)))) pa_nil)))
    (pss_one ps_continue))) pss_nil)
    (pss_cons (ps_set (i := 9) scGr.nd rfl (Or.inl rfl) (pe_callL (i := 0) FE (hr.mono (by omega)) rfl (Or.inl rfl) kE bE .nil pass0 (pa_cons (pv 1) (pa_cons (pe_it (pv 7) pe_int) pa_nil))))
    (pss_cons (ps_set (i := 6) scGr.nd rfl (Or.inl rfl) (pe_op op_add (pv 6) pe_int))
    (pss_cons (ps_if (PW.pt (pw_and (pt_cmp (pc_notN (pv 3)) rfl) (pw_and1 (pt_cmpR op_gt (pv 6) (pv 3) (nomark _))))) (pss_one ps_never) pss_nil)
    (pss_one (ps_if (pt_cmpR op_eq (pe_it (pv 9) pe_int) pe_str (nomark _)) (pss_one (ps_expr (pe_bm PySem.F.plainAttrs_list PySem.F.slot_list_append PySem.F.type_list_append mt_append (pv 5) (pa_cons (pv 9) pa_nil)))) (pss_cons (ps_expr (pe_bm PySem.F.plainAttrs_list PySem.F.slot_list_append PySem.F.type_list_append mt_append (pv 4) (pa_cons (pe_tup (pa_cons pe_str (pa_cons (pe_it (pv 9) pe_int) (pa_cons (pe_callB call_len_seq (by rfl) Z.len PySem.boot_len (pa_cons (pe_it (pv 9) pe_int) pa_nil)) pa_nil)))) pa_nil)))
    (pss_one (ps_expr (pe_bm PySem.F.plainAttrs_list PySem.F.slot_list_extend PySem.F.type_list_extend mt_extend (pv 4) (pa_cons (pe_lc (own := [("state", 11)]) (g := gName 11) (tt := tYes) rfl scGr.nd (pi_tup (pe_revT (pe_it (pv 9) pe_int))) (blkOk_by (own := [("state", 11)]) (N := NGr) (sc := defScope sGr) (by decide +kernel)) (fun _ _ _ _ _ => (pg_name (i := 11) scGr.nd rfl (Or.inl rfl))) (fun _ _ _ _ _ => pts_nil) (fun _ _ _ _ _ => by exact (pe_tup (pa_cons pe_str (pa_cons (pv 11) pa_nil))))) pa_nil)))))))))))))
    (pss_one (ps_ret (pe_il (pv 5) pe_int))))), ?_⟩
  refine ⟨_, rfl, (by show 2 ≤ sizeLine; decide), fun p1 h1 => ⟨(by show 1 ≤ sizeLine; decide), fun p2 h2 => ⟨Nat.zero_le _, fun p3 h3 => ⟨(by show 3 ≤ sizeLine; decide), fun p4 h4 => ⟨p4, _, rfl, SqT.of upd_same, rfl, _, _, rfl, _, _, rfl, _, _, rfl, rfl, ?_⟩⟩⟩⟩⟩
  refine ⟨fun n σ H1 => ∃ tl ml vs ys ts ms c x7 x8 x9 x10 x11, GW fE cv v mo step Dom H u n σ H1 tl ml vs ys ts ms c x7 x8 x9 x10 x11, ?_, ?_⟩
  · generalize d1 : upd H p1 _ = H1 at *
    obtain ⟨s1, e1⟩ := Same.eqn h1 d1
    generalize d2 : upd H1 p2 _ = H2 at *
    obtain ⟨s2, e2⟩ := Same.eqn h2 d2
    generalize d3 : upd H2 p3 _ = H3 at *
    obtain ⟨s3, e3⟩ := Same.eqn h3 d3
    generalize d4 : upd H3 p4 _ = H4 at *
    obtain ⟨s4, e4⟩ := Same.eqn h4 d4
    refine ⟨_, p2, p3, [.ref p1], [], [.go t u], [], 0, _, _, _, _, _, ⟨rfl, Same.trans s1 (Same.trans s2 (Same.trans s3 s4)), Same.gone s1 h2, Same.gone (Same.trans s1 s2) h3, ne_som e2 h3, s4 _ _ (s3 _ _ e2), s4 _ _ e3, .cons ⟨p1, v, rfl, s4 _ _ (s3 _ _ (s2 _ _ e1)), Ts.keep (TK.of (Same.trans s1 (Same.trans s2 (Same.trans s3 s4)))) _ _ ht⟩ .nil, .nil, rfl, trivial, ?_, ?_, Nat.le_refl _, rfl⟩⟩
    · intro x hx s w e
      cases List.mem_singleton.mp hx
      cases e
      exact ⟨hg, hd⟩
    · rw [cnt, cnt]; omega
  rintro n σ H1 ⟨tl, ml, vs, ys, ts, ms, c, x7, x8, x9, x10, x11, g⟩
  have hsl := g.sl
  subst hsl
  refine ⟨_, rfl, ?_⟩
  have hlen : vs.length = ts.length := Paired.len g.pt
  have hmlen : ys.length = ms.length := Paired.len g.pm
  have hcn := g.cn
  have hjn := g.jn
  have hvl : vs.length ≤ 10000 := by
    have h1 := len_msr ts
    have h2 := msr_le ts
    have h3 := nd u
    omega
  have hml : ys.length ≤ 2000 := by omega
  cases ts with
  | nil =>
    have : vs = [] := List.length_eq_zero_iff.mp hlen
    subst this
    refine ⟨_, tru_l g.tt, itF rfl ?_⟩
    have he : ms = [u] := g.ex
    subst he
    obtain ⟨y, ys', rfl⟩ : ∃ y ys', ys = y :: ys' := by cases ys with
      | nil => simp at hmlen
      | cons y ys' => exact ⟨_, _, rfl⟩
    have : ys' = [] := by simpa using hmlen
    subst this
    refine ⟨_, rfl, ml, _, _, _, rfl, rfl, SqL.of g.mm, rfl, ?_⟩
    have hy := g.pm
    cases hy with
    | cons hy _ => exact kq _ _ g.same hy
  | cons x ts =>
    obtain ⟨v1, vs', rfl⟩ : ∃ y ys', vs = y :: ys' := by cases vs with
      | nil => simp at hlen
      | cons y ys' => exact ⟨_, _, rfl⟩
    have hpt := g.pt
    cases hpt with
    | cons hx hpt =>
    refine ⟨_, tru_l g.tt, itT (by rw [rev_empty]; rfl) ⟨_, fun _ _ h => h, ?_⟩⟩
    refine ⟨_, rfl, ty_l g.tt, _, _, v1, rfl, rfl, g.tt, pop_get _ _, ?_⟩
    rw [pop_rest]
    cases x with
    | join p n =>
      obtain ⟨q, r, rfl, eq, er⟩ := hx
      have eq1 : upd H1 tl (.lst vs'.reverse) q = some _ := upd_at eq (ne_of eq g.tt (fun z => nomatch z))
      have er1 : upd H1 tl (.lst vs'.reverse) r = some _ := upd_at er (ne_of er g.tt (fun z => nomatch z))
      have em1 : upd H1 tl (.lst vs'.reverse) ml = some _ := upd_at g.mm (Ne.symm g.ne)
      have et1 : upd H1 tl (.lst vs'.reverse) tl = some _ := upd_same
      have hfit : n ≤ ms.length ∧ fits ts (ms.length - n + 1) := g.fit
      have sb0 : SameBut [tl, ml] H1 (upd H1 tl (.lst vs'.reverse)) := SameBut.put (SameBut.refl _ _) (by simp)
      generalize upd H1 tl (.lst vs'.reverse) = Hc at *
      refine ⟨_, rfl, q, _, _, _, rfl, rfl, SqT.of eq1, rfl, rfl, _, rfl, itT (dec_same _) ?_⟩
      refine ⟨_, rfl, q, _, _, _, rfl, rfl, SqT.of eq1, rfl, _, rfl, by omega, by omega, fun D0 hD0 => ?_⟩
      refine lc_range (n := n) (fun i H' => i ≤ n ∧ SameBut [ml] Hc H' ∧ H' ml = some (.lst (ys.drop i).reverse) ∧ H' D0 = some (.lst (ys.take i))) ⟨Nat.zero_le _, SameBut.putN (SameBut.refl _ _) hD0, upd_at em1 (ne_som em1 hD0), upd_same⟩ (fun i H' hi hw => ?_) (fun H' hw => ?_)
      · obtain ⟨hle, sb, em, eD⟩ := hw
        obtain ⟨y, rest, hdr⟩ : ∃ y rest, ys.drop i = y :: rest := by
          cases h : ys.drop i with
          | nil =>
            have := congrArg List.length h
            rw [List.length_drop, List.length_nil] at this
            omega
          | cons y rest => exact ⟨_, _, rfl⟩
        have hyi : ys[i]? = some y := by
          have := List.getElem?_drop (xs := ys) (i := i) (j := 0)
          rw [hdr] at this
          simpa using this.symm
        rw [hdr] at em
        refine ⟨rfl, itT (B := True) rfl ⟨_, rfl, ty_l em, ml, _, y, rfl, rfl, em, pop_get _ _, ?_⟩⟩
        have hne : D0 ≠ ml := (ne_som em1 hD0).symm
        refine ⟨_, upd_at eD hne, lt_line (by rw [List.length_take]; omega), hi, ?_, ?_, ?_⟩
        · exact SameBut.putN (SameBut.put sb (by simp)) hD0
        · rw [pop_rest]
          refine upd_at ?_ hne.symm
          rw [upd_same, ← List.drop_drop, hdr]
          rfl
        · rw [upd_same, take_one hyi]
      · obtain ⟨_, sb, em, eD⟩ := hw
        have sb2 : SameBut [tl, ml] H1 H' := SameBut.trans sb0 (fun b o hb e => sb b o (fun z => hb (List.mem_cons_of_mem _ z)) e)
        have eq2 := sb _ _ (by simp; exact ne_of eq1 em1 (fun z => nomatch z)) eq1
        have er2 := sb _ _ (by simp; exact ne_of er1 em1 (fun z => nomatch z)) er1
        refine ⟨_, rfl, ty_l em, _, rfl, q, _, _, _, rfl, rfl, SqT.of eq2, rfl, _, rfl, D0, _, rfl, SqL.of eD, fun a1 ha1 => ?_⟩
        refine ⟨a1, _, rfl, .inl ⟨SqL.of upd_same, fun a2 ha2 => ⟨(by show 3 ≤ sizeLine; decide), fun a3 ha3 => ?_⟩⟩⟩
        generalize d1 : upd H' a1 _ = H2 at *
        obtain ⟨s1, e1⟩ := Same.eqn ha1 d1
        generalize d2 : upd H2 a2 _ = H3 at *
        obtain ⟨s2, e2⟩ := Same.eqn ha2 d2
        generalize d3 : upd H3 a3 _ = H4 at *
        obtain ⟨s3, e3⟩ := Same.eqn ha3 d3
        have s4 := Same.trans s1 (Same.trans s2 s3)
        refine ⟨ml, _, _, rfl, rfl, s4 _ _ em, lt_line (by rw [List.length_reverse, List.length_drop]; omega), ?_⟩
        have sb3 : SameBut [tl, ml] H1 (upd H4 ml (.lst ((ys.drop n).reverse ++ [.ref a3]))) := SameBut.put (SameBut.trans sb2 (SameBut.of s4)) (by simp)
        have hk : TK H1 (upd H4 ml (.lst ((ys.drop n).reverse ++ [.ref a3]))) := SameBut.tk sb3 (fun a ha => by
          rcases List.mem_cons.mp ha with rfl | ha
          · exact noTup_l g.tt
          · rw [List.mem_singleton.mp ha]; exact noTup_l g.mm)
        have s0 : Same H (upd H4 ml (.lst ((ys.drop n).reverse ++ [.ref a3]))) := SameBut.same sb3 g.same (fun a ha => by
          rcases List.mem_cons.mp ha with rfl | ha
          · exact g.t0
          · rw [List.mem_singleton.mp ha]; exact g.m0)
        have hnm : ∀ {b : Addr} {xs : List V}, H4 b = some (.tup xs) → b ≠ ml := fun e => ne_of e (s4 _ _ em) (fun z => nomatch z)
        refine ⟨msr ts, by rw [g.me, msr]; omega, tl, ml, vs', .ref a3 :: ys.drop n, ts, .ask p (ms.take n).reverse :: ms.drop n, c, _, _, _, _, _, ⟨rfl, s0, g.t0, g.m0, g.ne, ?_, ?_, Paired.keep (F := TkAt) (fun _ _ _ _ k h => TkAt.keep k h) hk hpt, ?_, ?_, ?_, ?_, ?_, ?_, rfl⟩⟩
        · exact upd_at (s4 _ _ (sb _ _ (by simp; exact g.ne) et1)) g.ne
        · rw [upd_same, List.reverse_cons]
        · refine .cons ?_ (Paired.keep (F := TrAt) keeps_tr hk (Paired.dropN n g.pm))
          show Ts _ _ _
          rw [tr_ask]
          have hpr : Paired (TrAt (upd H4 ml (.lst ((ys.drop n).reverse ++ [.ref a3])))) (ys.take n).reverse (ms.take n).reverse := Paired.keep (F := TrAt) keeps_tr hk (Paired.rev (Paired.takeN n g.pm))
          refine .tup (upd_at e3 (hnm e3)) (.cons (.str _) (.cons (PlAt_mk (upd_at (s4 _ _ er2) (hnm (s4 _ _ er2)))) (.cons (.tup (upd_at (s3 _ _ e2) (hnm (s3 _ _ e2))) (tsA_of hpr)) .nil)))
        · exact g.ex
        · have := hfit.2
          rw [List.length_cons, List.length_drop]
          exact this
        · exact fun x hx s w e => g.all x (List.mem_cons_of_mem _ hx) s w e
        · rw [← hcn, cnt]
        · rw [List.length_cons, List.length_drop]
          rw [joins] at hjn
          omega
    | go st w =>
      obtain ⟨q, xv, rfl, eq, hs⟩ := hx
      have eq1 : upd H1 tl (.lst vs'.reverse) q = some _ := upd_at eq (ne_of eq g.tt (fun z => nomatch z))
      have em1 : upd H1 tl (.lst vs'.reverse) ml = some _ := upd_at g.mm (Ne.symm g.ne)
      have et1 : upd H1 tl (.lst vs'.reverse) tl = some _ := upd_same
      have sb0 : SameBut [tl, ml] H1 (upd H1 tl (.lst vs'.reverse)) := SameBut.put (SameBut.refl _ _) (by simp)
      have hno : ∀ a ∈ [tl, ml], NoTup H1 a := fun a ha => by
        rcases List.mem_cons.mp ha with rfl | ha
        · exact noTup_l g.tt
        · rw [List.mem_singleton.mp ha]; exact noTup_l g.mm
      have h00 : ∀ a ∈ [tl, ml], H a = none := fun a ha => by
        rcases List.mem_cons.mp ha with rfl | ha
        · exact g.t0
        · rw [List.mem_singleton.mp ha]; exact g.m0
      generalize upd H1 tl (.lst vs'.reverse) = Hc at *
      obtain ⟨hgr, hdm⟩ := g.all _ (List.mem_cons_self ..) st w rfl
      have hs1 : TrAt Hc xv st := Ts.keep (SameBut.tk sb0 hno) _ _ hs
      refine ⟨_, rfl, q, _, _, _, rfl, rfl, SqT.of eq1, rfl, rfl, _, rfl, itF dec_go_join ?_⟩
      refine ⟨rfl, _, rfl, _, rfl, q, _, _, _, rfl, rfl, SqT.of eq1, rfl, cv, xv, st, rfl, hctx _ _ _ (SameBut.same sb0 g.same h00) hc, hs1, hdm, fun r H2 s2 hr2 => ?_⟩
      have hwn : 0 < nd w := nd_pos w
      have hcn2 : c + (nd w + cnt ts) = nd u := g.cn
      refine ⟨_, rfl, _, _, rfl, rfl, ?_⟩
      refine if_most hmo rfl rfl (by omega) ?_
      have sb2 : SameBut [tl, ml] H1 H2 := SameBut.trans sb0 (SameBut.of s2)
      have et2 := s2 _ _ et1
      have em2 := s2 _ _ em1
      generalize hw' : step st = w' at hr2
      cases hgr with
      | @fin _ a hst =>
        rw [hst] at hw'
        subst hw'
        obtain ⟨p5, x5, rfl, e5, h5⟩ := hr2.fin
        refine ⟨_, rfl, p5, _, _, _, rfl, rfl, SqT.of e5, rfl, rfl, _, rfl, itT (dec_same _) ?_⟩
        refine ⟨_, rfl, ty_l em2, _, rfl, ml, _, _, rfl, rfl, em2, lt_line (by rw [List.length_reverse]; omega), ?_⟩
        have sb3 : SameBut [tl, ml] H1 (upd H2 ml (.lst (ys.reverse ++ [.ref p5]))) := SameBut.put sb2 (by simp)
        have hk := SameBut.tk sb3 hno
        have hk2 : TK H2 (upd H2 ml (.lst (ys.reverse ++ [.ref p5]))) := TK.lst em2 _
        refine ⟨msr ts, by rw [g.me, msr]; omega, tl, ml, vs', .ref p5 :: ys, ts, .fin a :: ms, c + 1, _, _, _, _, _, ⟨rfl, SameBut.same sb3 g.same h00, g.t0, g.m0, g.ne, upd_at et2 g.ne, ?_, Paired.keep (F := TkAt) (fun _ _ _ _ k h => TkAt.keep k h) hk hpt, .cons (Ts.keep hk2 _ _ hr2) (Paired.keep (F := TrAt) keeps_tr hk g.pm), g.ex, g.fit, fun x hx s w e => g.all x (List.mem_cons_of_mem _ hx) s w e, ?_, ?_, rfl⟩⟩
        · rw [upd_same, List.reverse_cons]
        · have : nd (.fin a) = 1 := rfl
          omega
        · rw [List.length_cons]
          rw [joins] at hjn
          omega
      | @ask _ p ss us hst hul hgi =>
        rw [hst] at hw'
        subst hw'
        obtain ⟨p5, r5, b5, xs, rfl, e5, er5, eb5, tb⟩ := hr2.ask
        have hxl : xs.length = ss.length := by rw [tb.length, List.length_map]
        have hund : nds us < nd (.ask p us) := by rw [nd]; omega
        have husl : us.length ≤ nds us := nds_len us
        refine ⟨_, rfl, p5, _, _, _, rfl, rfl, SqT.of e5, rfl, rfl, _, rfl, itF dec_ask_end ?_⟩
        refine ⟨_, rfl, ty_l et2, _, rfl, p5, _, _, _, rfl, rfl, SqT.of e5, rfl, _, rfl, p5, _, _, _, rfl, rfl, SqT.of e5, rfl, b5, _, rfl, .inr (SqT.of eb5), (by show 3 ≤ sizeLine; decide), fun a1 ha1 => ?_⟩
        generalize d1 : upd H2 a1 _ = H3 at *
        obtain ⟨s3, e3⟩ := Same.eqn ha1 d1
        have et3 := s3 _ _ et2
        refine ⟨tl, _, _, rfl, rfl, et3, lt_line (by rw [List.length_reverse]; rw [List.length_cons] at hvl; omega), ?_⟩
        have sb3 : SameBut [tl, ml] H1 H3 := SameBut.trans sb2 (SameBut.of s3)
        have hnt : ∀ {b : Addr} {xs : List V}, H3 b = some (.tup xs) → b ≠ tl := fun e => ne_of e et3 (fun z => nomatch z)
        have e5' : upd H3 tl (.lst (vs'.reverse ++ [.ref a1])) p5 = some _ := upd_at (s3 _ _ e5) (hnt (s3 _ _ e5))
        have er5' : upd H3 tl (.lst (vs'.reverse ++ [.ref a1])) r5 = some _ := upd_at (s3 _ _ er5) (hnt (s3 _ _ er5))
        have eb5' : upd H3 tl (.lst (vs'.reverse ++ [.ref a1])) b5 = some _ := upd_at (s3 _ _ eb5) (hnt (s3 _ _ eb5))
        have e3' : upd H3 tl (.lst (vs'.reverse ++ [.ref a1])) a1 = some _ := upd_at e3 (hnt e3)
        have em3 : upd H3 tl (.lst (vs'.reverse ++ [.ref a1])) ml = some _ := upd_at (s3 _ _ em2) (Ne.symm g.ne)
        have et4 : upd H3 tl (.lst (vs'.reverse ++ [.ref a1])) tl = some _ := upd_same
        have tb3 : TsA (upd H3 tl (.lst (vs'.reverse ++ [.ref a1]))) xs (ss.map tr) := TsA.keep (TK.trans (TK.of s3) (TK.lst et3 _)) _ _ tb
        have sb4 : SameBut [tl, ml] H1 (upd H3 tl (.lst (vs'.reverse ++ [.ref a1]))) := SameBut.put sb3 (by simp)
        generalize upd H3 tl (.lst (vs'.reverse ++ [.ref a1])) = H4 at *
        refine ⟨_, rfl, ty_l et4, _, rfl, p5, _, _, _, rfl, rfl, SqT.of e5', rfl, b5, xs, rfl, eb5', fun a2 ha2 => ?_⟩
        generalize d2 : upd H4 a2 _ = H5 at *
        obtain ⟨s5, e6⟩ := Same.eqn ha2 d2
        refine ⟨a2, rfl, ⟨_, SqT.of e6⟩, fun D0 hD0 => ?_⟩
        refine lc_tupM (F := GoAt) keeps_go.d ss.reverse (by rw [List.length_reverse, List.length_reverse, hxl]) (by rw [List.length_reverse, hxl]; omega) hD0 e6 (fun i x H6 s hx hs6 s6 Q6 hq => ⟨rfl, ?_⟩) (fun H6 acc s6 eD hacc => ?_)
        · refine ⟨_, rfl, (by show 2 ≤ sizeLine; decide), fun a3 ha3 => hq _ _ (Same.new ha3 _) ⟨a3, x, rfl, upd_same, ?_⟩⟩
          obtain ⟨s', h1, h2⟩ := Paired.nth' (Paired.rev (of_tsA tb3)) hx
          rw [hs6] at h1
          cases h1
          exact Ts.keep (TK.trans (TK.of s5) (TK.trans (TK.of s6) (TK.new ha3 _))) _ _ h2
        · have s7 := Same.trans s5 s6
          have hal : acc.length = ss.length := by rw [Paired.len hacc, List.length_reverse]
          refine ⟨tl, D0, _, _, rfl, rfl, s7 _ _ et4, eD, le_line (by rw [List.length_append, List.length_reverse]; rw [List.length_cons] at hvl; simp; omega), ?_⟩
          have hk7 : TK H6 (upd H6 tl (.lst (vs'.reverse ++ [.ref a1] ++ acc))) := TK.lst (s7 _ _ et4) _
          have sb7 : SameBut [tl, ml] H1 (upd H6 tl (.lst (vs'.reverse ++ [.ref a1] ++ acc))) := SameBut.put (SameBut.trans sb4 (SameBut.of s7)) (by simp)
          have hk := SameBut.tk sb7 hno
          have hnt7 : ∀ {b : Addr} {xs : List V}, H4 b = some (.tup xs) → upd H6 tl (.lst (vs'.reverse ++ [.ref a1] ++ acc)) b = some (.tup xs) := fun e => upd_at (s7 _ _ e) (ne_of e et4 (fun z => nomatch z))
          obtain ⟨c1, c2, c3⟩ := gos_cnt (ss := ss) (us := us) (.join p us.length :: ts) hul
          refine ⟨msr (gos ss us ++ (.join p us.length :: ts)), ?_, tl, ml, acc.reverse ++ (.ref a1 :: vs'), ys, gos ss us ++ (.join p us.length :: ts), ms, c + 1, _, _, _, _, _, ⟨rfl, SameBut.same sb7 g.same h00, g.t0, g.m0, g.ne, ?_, upd_at (s7 _ _ em3) (Ne.symm g.ne), Paired.append (gos_at ?_ hul) (.cons ⟨a1, r5, rfl, ?_, hnt7 er5'⟩ (Paired.keep (F := TkAt) (fun _ _ _ _ k h => TkAt.keep k h) hk hpt)), Paired.keep (F := TrAt) keeps_tr hk g.pm, ?_, ?_, ?_, ?_, ?_, rfl⟩⟩
          · rw [g.me, c3, msr, msr, nd]; omega
          · rw [upd_same]; simp
          · have := Paired.rev (Paired.keep (F := GoAt) keeps_go hk7 hacc)
            rw [List.reverse_reverse] at this
            exact this
          · have := hnt7 e3'
            rw [this, hxl, hul]
          · rw [gos_exec _ _ hul, exec]
            have h1 : (us.reverse ++ ms).take us.length = us.reverse := by rw [← List.length_reverse (as := us)]; exact List.take_left
            have h2 : (us.reverse ++ ms).drop us.length = ms := by rw [← List.length_reverse (as := us)]; exact List.drop_left
            rw [h1, h2, List.reverse_reverse]
            exact g.ex
          · rw [gos_fits _ _ hul, fits]
            refine ⟨by omega, ?_⟩
            have : fits ts (ms.length + 1) := g.fit
            rw [show ms.length + us.length - us.length + 1 = ms.length + 1 by omega]
            exact this
          · intro x hx s w e
            rcases List.mem_append.mp hx with hx | hx
            · obtain ⟨i, s', u', h1, h2, h3⟩ := gos_mem hx
              rw [h3] at e
              cases e
              exact ⟨hgi i s w h1 h2, hdom _ _ _ hdm hst s (List.mem_of_getElem? h1)⟩
            · rcases List.mem_cons.mp hx with hx | hx
              · rw [hx] at e; cases e
              · exact g.all x (List.mem_cons_of_mem _ hx) s w e
          · rw [c1, cnt, ← hcn2, nd]; omega
          · rw [c2, joins]
            rw [joins] at hjn
            omega
end K16

set_option Elab.async false
set_option linter.all false
set_option maxRecDepth 100000
set_option maxHeartbeats 4000000
/-! fixed_at, any_value, node_count, places_of. -/
namespace K16
open PySem PySem.Spec PyProof.Rows L2
/-- what is drawn as a menu's places -/
structure Menu (m : Nat → Nat) (P : List Pl) : Prop where
  asc : Asc P
  two : ∀ p ∈ P, 2 ≤ m p.2
  ok : ∀ p ∈ P, p ∈ allPl
  prd : prd m P ≤ 300
  len : P.length ≤ 5
section
variable {m : Nat → Nat} {L : List Pl}
theorem Menu.nodup (M : Menu m L) : L.Nodup := M.asc.nodup
theorem Menu.pos (M : Menu m L) : ∀ p ∈ L, 0 < m p.2 := fun p hp => Nat.lt_of_lt_of_le (by omega) (M.two p hp)
theorem Menu.nodes (M : Menu m L) {t : Tr} (h : Wf m L t) : nd t ≤ 600 := by
  have := h.nodes M.nodup M.two
  have := M.prd
  omega
theorem allPl_ok : ∀ p ∈ allPl, PlOk p := by unfold PlOk allPl; decide +kernel
theorem Menu.plOk (M : Menu m L) : ∀ p ∈ L, PlOk p := fun p hp => allPl_ok p (M.ok p hp)
theorem Menu.trOk (M : Menu m L) {t : Tr} (h : Wf m L t) : TrOk t := fun p hp => M.plOk p (h.pls_sub hp)
theorem rem_sub {P : List Pl} {p q : Pl} (h : q ∈ rem P p) : q ∈ P := (mem_rem.mp h).1
theorem Menu.size (M : Menu m L) : ∀ p ∈ L, m p.2 ≤ 300 := fun p hp => by
  have h1 := prd_rem (m := m) M.nodup hp
  have h2 : 0 < K16.prd m (rem L p) := prd_pos fun q hq => M.pos q (rem_sub hq)
  have h3 := M.prd
  have h4 : m p.2 * 1 ≤ m p.2 * K16.prd m (rem L p) := Nat.mul_le_mul_left _ h2
  omega
end
variable {P : Program} {w : World} {K : PySem.W.Frag} {mg : Str → Option Value} {base : Heap}

/-! ### fixed_at -/
abbrev sFx : Stmt := top 11
abbrev NFx : List Str := ["tree", "place", "d"]
theorem scFx : FnScope NFx ["tree", "place", "d"] (defScope sFx) := ⟨rfl, rfl, rfl, by decide +kernel, rfl, by decide +kernel, by decide +kernel⟩
abbrev PlA (H : Hp) (q : Addr) (p : Pl) : Prop := H q = some (.tup [.int (p.1 : Int), .int (p.2 : Int)])
def spFx : Sp := fun vs H Q _ => ∃ (v : V) (q : Addr) (d : Nat) (t : Tr) (m : Nat → Nat) (L : List Pl) (p : Pl), vs = [v, .ref q, .int (d : Int)] ∧ TrAt H v t ∧ PlA H q p ∧ Menu m L ∧ Wf m L t ∧ p ∈ L ∧ d < m p.2 ∧
  ∀ r H', Same H H' → TrAt H' r (fx p d t) → Q r H'
theorem sk_dom {m : Nat → Nat} {L : List Pl} {p : Pl} {d : Nat} (hp : p ∈ L) (hd : d < m p.2) {t : Tr} {q : Pl} {ss : List Tr} (h : Wf m L t) (e : sk (one p d) t = .ask q ss) : ∀ s ∈ ss, Wf m L s := by
  have hk : KOk m L (one p d) := fun q e he => by
    unfold one at he
    split at he
    · rename_i h; cases he; subst h; exact ⟨hp, hd⟩
    · cases he
  have := (h.skip hk).1
  rw [e] at this
  cases this with
  | ask _ _ hb => exact fun s hs => (hb s hs).mono fun x hx => rem_sub hx
theorem one_kst (p : Pl) (d : Nat) : one p d = kst (fun _ => none) p d := rfl
theorem ok_fx (D : Def K mg "fixed_at" sFx ["tree", "place", "d"]) (Z : Bi mg) (Dgr : Def K mg "grown" sGr ["expand", "context", "start", "most"]) (Dgn : Def K mg "given_node" sGn ["context", "tree"])
    (C_skipped : Cal P w K mg base 1 "skipped" spSkip) : Cal P w K mg base 4 "fixed_at" spFx := by
  refine D.ok scFx (fun vs H Q E h => ?_) (fun f cdv A outer s H vs Q E hr h => ?_)
  · obtain ⟨v, q, d, t, m, L, p, rfl, _⟩ := h
    rfl
  obtain ⟨v, q, d, t, m, L, p, rfl, ht, hq, M, hw, hp, hd, kq⟩ := h
  have hu64 := hr.units
  obtain ⟨fE, fdE, psE, FE, hm, kE, bE⟩ := (ok_gn (P := P) (w := w) (base := base) hp hd Dgn C_skipped).ex
  have C_grown := ok_grown (P := P) (w := w) (base := base) Dgr Z FE kE bE (fun H H' c s ⟨a, e, k⟩ => ⟨a, e, k.same s⟩) (fun t p ss hw h => sk_dom hp hd hw h)
  refine ⟨_, (pss_one (ps_ret (pe_cal C_grown (hr.mono (by omega)) (pa_cons (pe_glob (by rfl) hm (show RelV (.ref fE) (.ref fE) from rfl)) (pa_cons (pe_dispT1 hu64 (pv 1) (pv 2)) (pa_cons (pv 0) (pa_cons pe_non pa_nil))))))), ?_⟩
  refine fun a ha => ⟨_, rfl, _, rfl, q, pk p, rfl, upd_at hq (ne_som hq ha), upd_same, _, rfl, ?_⟩
  rw [upd_upd]
  have s1 : Same H (upd H a (.dT [(pk p, .int (d : Int))])) := Same.new ha _
  refine ⟨_, v, .non, t, fx p d t, rfl, .inl rfl, ⟨a, rfl, [(p, .int (d : Int))], upd_same, ⟨by simp, fun x hx => ?_⟩, ?_⟩, Ts.keep (TK.of s1) _ _ ht, hw, gr_fix hw hd, ?_, fun r H' s h => kq r H' (Same.trans s1 s) h⟩
  · rw [List.mem_singleton.mp hx]; exact M.ok p hp
  · have := Tells.put (ps := []) Tells.nil p d
    exact this
  · have := M.nodes ((hw.fix hd).mono fun x hx => rem_sub hx)
    omega

/-! ### any_value -/
abbrev sAv : Stmt := top 19
abbrev NAv : List Str := ["tree"]
theorem scAv : FnScope NAv ["tree"] (defScope sAv) := ⟨rfl, rfl, rfl, by decide +kernel, rfl, by decide +kernel, by decide +kernel⟩
def spAv : Sp := fun vs H Q _ => ∃ (v : V) (t : Tr) (m : Nat → Nat) (L : List Pl), vs = [v] ∧ TrAt H v t ∧ Wf m L t ∧ (∀ p ∈ L, 0 < m p.2) ∧ ∀ r, Ts H r (vd (ev t zero)) → Q r H
theorem ok_av (D : Def K mg "any_value" sAv ["tree"]) : Cal P w K mg base 1 "any_value" spAv := by
  refine D.ok scAv (fun vs H Q E h => ?_) (fun f cdv A outer s H vs Q E hr h => ?_)
  · obtain ⟨v, t, m, L, rfl, _⟩ := h
    rfl
  obtain ⟨v, t, m, L, rfl, ht, hw, hm, kq⟩ := h
  refine ⟨_, (pss_cons (ps_while PassesOwn.never (pt_cmpR op_eq (pe_it (pv 0) pe_int) pe_str (nomark _)) (pss_one (ps_set (i := 0) scAv.nd rfl (Or.inl rfl) (pe_it (pe_it (pv 0) pe_int) pe_int))))
    (pss_one (ps_ret (pe_it (pv 0) pe_int)))), ?_⟩
  refine ⟨fun n σ H1 => ∃ v1 t1, σ = [some v1] ∧ H1 = H ∧ TrAt H v1 t1 ∧ Wf m L t1 ∧ ev t1 zero = ev t zero ∧ n = nd t1, ⟨_, v, t, rfl, rfl, ht, hw, rfl, rfl⟩, ?_⟩
  rintro n σ H1 ⟨v1, t1, rfl, rfl, ht1, hw1, hs1, rfl⟩
  cases t1 with
  | fin u =>
    obtain ⟨p, x, rfl, e, hx⟩ := ht1.fin
    refine ⟨_, rfl, p, _, _, _, rfl, rfl, SqT.of e, rfl, rfl, _, rfl, itF dec_end_ask ?_⟩
    refine ⟨_, rfl, p, _, _, _, rfl, rfl, SqT.of e, rfl, kq x ?_⟩
    rw [← hs1]
    exact hx
  | ask p bs =>
    obtain ⟨p1, r1, b1, xs, rfl, e, er, eb, tb⟩ := ht1.ask
    cases hw1 with
    | ask hp hl hb =>
    have h0 : 0 < bs.length := by rw [hl]; exact hm p hp
    have e1 : bs[0]? = some bs[0] := List.getElem?_eq_getElem h0
    obtain ⟨u, hu1, hu2⟩ := TrAt.kid tb e1
    refine ⟨_, rfl, p1, _, _, _, rfl, rfl, SqT.of e, rfl, rfl, _, rfl, itT (dec_same _) ⟨_, fun _ _ h => h, ?_⟩⟩
    refine ⟨_, rfl, p1, _, _, _, rfl, rfl, SqT.of e, rfl, b1, _, _, _, rfl, rfl, SqT.of eb, atI_nat (j := 0) hu1, ?_⟩
    refine ⟨nd bs[0], nd_lt (List.getElem_mem h0), u, bs[0], rfl, rfl, hu2, (hb _ (List.getElem_mem h0)).mono fun x hx => rem_sub hx, ?_, rfl⟩
    rw [← hs1, ev_ask (f := zero) e1]

/-! ### node_count -/
theorem nds_rev (us : List Tr) : nds us.reverse = nds us := by
  induction us with
  | nil => rfl
  | cons u us ih => rw [List.reverse_cons, nds_append, ih, nds, nds, nds]; omega
abbrev sNc : Stmt := top 6
abbrev NNc : List Str := ["tree", "pending", "count", "node"]
theorem scNc : FnScope NNc ["tree"] (defScope sNc) := ⟨rfl, rfl, rfl, by decide +kernel, rfl, by decide +kernel, by decide +kernel⟩
def spNc : Sp := fun vs H Q _ => ∃ (v : V) (t : Tr), vs = [v] ∧ TrAt H v t ∧ nd t ≤ 2000 ∧ ∀ H', Same H H' → Q (.int (nd t : Nat)) H'
theorem ok_nc (D : Def K mg "node_count" sNc ["tree"]) : Cal P w K mg base 1 "node_count" spNc := by
  refine D.ok scNc (fun vs H Q E h => ?_) (fun f cdv A outer s H vs Q E hr h => ?_)
  · obtain ⟨v, t, rfl, _⟩ := h
    rfl
  obtain ⟨v, t, rfl, ht, hn, kq⟩ := h
  refine ⟨_, (pss_cons (ps_par (i := 1) (j := 2) (by rfl) scNc.nd rfl rfl (by decide) rfl rfl (pa_cons (pe_lst (pa_cons (pv 0) pa_nil)) (pa_cons pe_int pa_nil)) (by rfl))
    (pss_cons (ps_while PassesOwn.never (pt_truth (pv 1) (by intro _; rfl)) (pss_cons (ps_set (i := 3) scNc.nd rfl (Or.inl rfl) (pe_bm0 PySem.F.plainAttrs_list PySem.F.slot_list_pop PySem.F.type_list_pop mt_pop (pv 1)))
    (pss_cons (ps_set (i := 2) scNc.nd rfl (Or.inl rfl) (pe_op op_add (pv 2) pe_int))
    (pss_one (ps_if (pt_cmpR op_eq (pe_it (pv 3) pe_int) pe_str (nomark _)) (pss_one (ps_expr (pe_bm PySem.F.plainAttrs_list PySem.F.slot_list_extend PySem.F.type_list_extend mt_extendT (pv 1) (pa_cons (pe_it (pv 3) pe_int) pa_nil)))) pss_nil)))))
    (pss_one (ps_ret (pv 2))))), ?_⟩
  refine ⟨_, rfl, (by show 1 ≤ sizeLine; decide), fun a ha => ⟨_, _, rfl, ?_⟩⟩
  generalize d1 : upd H a _ = H1 at *
  obtain ⟨s1, e1⟩ := Same.eqn ha d1
  refine ⟨fun n σ H2 => ∃ vs ts c x3, σ = [some v, some (.ref a), some (.int ((c : Nat) : Int)), x3] ∧ Same H H2 ∧ H2 a = some (.lst vs.reverse) ∧ Paired (TrAt H2) vs ts ∧ c + nds ts = nd t ∧ n = nds ts, ⟨_, [v], [t], 0, _, rfl, s1, e1, .cons (Ts.keep (TK.of s1) _ _ ht) .nil, ?_, rfl⟩, ?_⟩
  · rw [nds, nds]; omega
  rintro n σ H2 ⟨vs, ts, c, x3, rfl, s2, e2, pt, hc, rfl⟩
  have hvl : vs.length ≤ 2000 := by
    have := nds_len ts
    rw [Paired.len pt]; omega
  cases pt with
  | nil =>
    refine ⟨_, rfl, _, tru_l e2, itF rfl ⟨_, rfl, ?_⟩⟩
    have : c = nd t := by rw [nds] at hc; omega
    rw [this]
    exact kq H2 s2
  | @cons v1 u vs ts hv pt =>
    refine ⟨_, rfl, _, tru_l e2, itT (by rw [rev_empty]; rfl) ⟨_, fun _ _ h => h, ?_⟩⟩
    refine ⟨_, rfl, ty_l e2, _, _, v1, rfl, rfl, e2, pop_get _ _, ?_⟩
    rw [pop_rest]
    have k3 : TK H2 (upd H2 a (.lst vs.reverse)) := TK.lst e2 _
    have s3 : Same H (upd H2 a (.lst vs.reverse)) := Same.lst s2 ha
    have e3 : upd H2 a (.lst vs.reverse) a = some _ := upd_same
    generalize upd H2 a (.lst vs.reverse) = H3 at *
    refine ⟨_, rfl, _, _, rfl, rfl, ?_⟩
    have hv3 : TrAt H3 v1 u := Ts.keep k3 _ _ hv
    have pt3 := Paired.keep (F := TrAt) keeps_tr k3 pt
    have hnu := nd_pos u
    rw [nds] at hc
    cases u with
    | fin x =>
      obtain ⟨p, x, rfl, e, hx⟩ := hv3.fin
      refine ⟨_, rfl, p, _, _, _, rfl, rfl, SqT.of e, rfl, rfl, _, rfl, itF dec_end_ask ?_⟩
      refine ⟨nds ts, by rw [nds]; omega, vs, ts, c + 1, _, rfl, s3, e3, pt3, ?_, rfl⟩
      rw [nd] at hc
      omega
    | ask p bs =>
      obtain ⟨p1, r1, b1, xs, rfl, e, er, eb, tb⟩ := hv3.ask
      have hxs : xs.length = bs.length := by rw [tb.length, List.length_map]
      rw [nd] at hc
      have := nds_len bs
      refine ⟨_, rfl, p1, _, _, _, rfl, rfl, SqT.of e, rfl, rfl, _, rfl, itT (dec_same _) ?_⟩
      refine ⟨_, rfl, ty_l e3, _, rfl, p1, _, _, _, rfl, rfl, SqT.of e, rfl, a, b1, _, _, rfl, rfl, e3, eb, le_line (by rw [List.length_reverse]; rw [List.length_cons] at hvl; omega), ?_⟩
      have k4 : TK H3 (upd H3 a (.lst (vs.reverse ++ xs))) := TK.lst e3 _
      refine ⟨nds (bs.reverse ++ ts), ?_, xs.reverse ++ vs, bs.reverse ++ ts, c + 1, _, rfl, Same.lst s3 ha, ?_, Paired.append (Paired.keep (F := TrAt) keeps_tr k4 (Paired.rev (of_tsA tb))) (Paired.keep (F := TrAt) keeps_tr k4 pt3), ?_, rfl⟩
      · rw [nds_append, nds_rev, nds, nd]; omega
      · rw [upd_same, List.reverse_append, List.reverse_reverse]
      · rw [nds_append, nds_rev]; omega
end K16

set_option Elab.async false
set_option linter.all false
set_option maxRecDepth 100000
set_option maxHeartbeats 4000000
/-! places_of, has_one_value, same_function, sides_of. -/
namespace K16
open PySem PySem.Spec PyProof.Rows L2
open Classical
variable {P : Program} {w : World} {K : PySem.W.Frag} {mg : Str → Option Value} {base : Heap}

/-! ### places_of -/
theorem pd_le : PySem.W.dataLe false pd = fun p q => decide ((p.1 : Int) < q.1 ∨ ((p.1 : Int) = q.1 ∧ (p.2 : Int) ≤ q.2)) := PySem.W.dataLe_ii (fun p : Pl => (p.1 : Int)) fun p => (p.2 : Int)
theorem sort_asc {l : List Pl} (hn : l.Nodup) : Asc (l.mergeSort (PySem.W.dataLe false pd)) := by
  have h1 : (l.mergeSort (PySem.W.dataLe false pd)).Pairwise fun a b => PySem.W.dataLe false pd a b = true := by
    refine List.pairwise_mergeSort (fun a b c => ?_) (fun a b => ?_) l
    · rw [pd_le]
      simp only [decide_eq_true_eq]
      omega
    · rw [pd_le]
      simp only [Bool.or_eq_true, decide_eq_true_eq]
      omega
  have h2 : (l.mergeSort (PySem.W.dataLe false pd)).Nodup := (List.mergeSort_perm l _).symm.nodup hn
  refine (h1.and h2).imp ?_
  rintro a b ⟨h, n⟩
  rw [pd_le] at h
  have h := of_decide_eq_true h
  unfold plt
  by_cases e : a.2 = b.2
  · by_cases e1 : a.1 = b.1
    · exact absurd (Prod.ext e1 e) n
    · omega
  · omega
theorem sort_mem {β : Type} {le : β → β → Bool} {l : List β} {a : β} : a ∈ l.mergeSort le ↔ a ∈ l := (List.mergeSort_perm l _).mem_iff
theorem plss_rev (us : List Tr) (p : Pl) : p ∈ plss us.reverse ↔ p ∈ plss us := by
  rw [plss_mem, plss_mem]
  simp only [List.mem_reverse]
theorem isKeys_ts {H : Hp} : ∀ {ps : PV} {bs : List Addr}, IsKeys H (ps.map pkv) bs → TsA H (bs.map V.ref) ((ps.map (·.1)).map pd)
  | [], _, h => by cases h; exact .nil
  | _ :: _, _, h => by cases h with | cons a t => exact .cons (PlAt_mk a) (isKeys_ts t)
abbrev sPl : Stmt := top 14
abbrev NPl : List Str := ["tree", "pending", "found", "node"]
theorem scPl : FnScope NPl ["tree"] (defScope sPl) := ⟨rfl, rfl, rfl, by decide +kernel, rfl, by decide +kernel, by decide +kernel⟩
def spPl : Sp := fun vs H Q _ => ∃ (v : V) (t : Tr) (m : Nat → Nat) (L : List Pl), vs = [v] ∧ TrAt H v t ∧ Menu m L ∧ Wf m L t ∧
  ∀ r ys L2 H', Same H H' → H' r = some (.lst ys) → TsA H' ys (L2.map pd) → Asc L2 → (∀ p, p ∈ L2 ↔ p ∈ pls t) → Q (.ref r) H'
theorem ok_pl (D : Def K mg "places_of" sPl ["tree"]) (Z : Bi mg) : Cal P w K mg base 1 "places_of" spPl := by
  refine D.ok scPl (fun vs H Q E h => ?_) (fun f cdv A outer s H vs Q E hr h => ?_)
  · obtain ⟨v, t, m, L, rfl, _⟩ := h
    rfl
  obtain ⟨v, t, m, L, rfl, ht, M, hw, kq⟩ := h
  have hu := hu_of hr
  have hu64 := hr.units
  refine ⟨_, (pss_cons (ps_par (i := 1) (j := 2) (by rfl) scPl.nd rfl rfl (by decide) rfl rfl (pa_cons (pe_lst (pa_cons (pv 0) pa_nil)) (pa_cons pe_dnewT pa_nil)) (by rfl))
    (pss_cons (ps_while PassesOwn.never (pt_truth (pv 1) (by intro _; rfl)) (pss_cons (ps_set (i := 3) scPl.nd rfl (Or.inl rfl) (pe_bm0 PySem.F.plainAttrs_list PySem.F.slot_list_pop PySem.F.type_list_pop mt_pop (pv 1)))
    (pss_one (ps_if (pt_cmpR op_eq (pe_it (pv 3) pe_int) pe_str (nomark _)) (pss_cons (ps_dput hu (pv 2) (pe_it (pv 3) pe_int) (pe_callB call_len_seq (by rfl) Z.len PySem.boot_len (pa_cons (pe_it (pv 3) pe_int) pa_nil)) rfl)
    (pss_one (ps_expr (pe_bm PySem.F.plainAttrs_list PySem.F.slot_list_extend PySem.F.type_list_extend mt_extendT (pv 1) (pa_cons (pe_it (pv 3) pe_int) pa_nil))))) pss_nil))))
    (pss_one (ps_ret (pe_callB (cr_sortedD (enc := pd) hu64) (by rfl) Z.sorted (by decide +kernel) (pa_cons (pe_callTy (call_list_dT rfl) (by rfl) Z.list (by decide +kernel) (pa_cons (pv 2) pa_nil)) pa_nil)))))), ?_⟩
  refine ⟨_, rfl, (by show 1 ≤ sizeLine; decide), fun a ha b hb => ⟨_, _, rfl, ?_⟩⟩
  generalize d1 : upd H a _ = H1 at *
  obtain ⟨s1, e1⟩ := Same.eqn ha d1
  generalize d2 : upd H1 b _ = H2 at *
  obtain ⟨s2, e2⟩ := Same.eqn hb d2
  have hb0 := Same.gone s1 hb
  have hab : a ≠ b := ne_som e1 hb
  refine ⟨fun n σ H2 => ∃ vs ts ps x3, σ = [some v, some (.ref a), some (.ref b), x3] ∧ Same H H2 ∧ H2 a = some (.lst vs.reverse) ∧ H2 b = some (.dT (ps.map pkv)) ∧ PKeys ps ∧ Paired (TrAt H2) vs ts ∧ (∀ u ∈ ts, Wf m L u) ∧ (∀ p, (p ∈ ps.map (·.1) ∨ p ∈ plss ts) ↔ p ∈ pls t) ∧ nds ts ≤ 600 ∧ n = nds ts,
    ⟨_, [v], [t], [], _, rfl, Same.trans s1 s2, s2 _ _ e1, e2, ⟨by simp, by simp⟩, .cons (Ts.keep (TK.of (Same.trans s1 s2)) _ _ ht) .nil, fun u hu => by rw [List.mem_singleton.mp hu]; exact hw, fun p => by simp [plss], by have := M.nodes hw; rw [nds, nds]; omega, rfl⟩, ?_⟩
  rintro n σ H3 ⟨vs, ts, ps, x3, rfl, s3, ea, eb, hk, pt, hwf, hpl, hnd, rfl⟩
  have hvl : vs.length ≤ 600 := by
    have := nds_len ts
    rw [Paired.len pt]; omega
  cases pt with
  | nil =>
    refine ⟨_, rfl, _, tru_l ea, itF rfl ⟨_, rfl, b, _, rfl, Rd.of eb, fun r bs hr0 hks => ?_⟩⟩
    generalize d4 : upd H3 r _ = H4 at *
    obtain ⟨s4, e4⟩ := Same.eqn hr0 d4
    refine ⟨r, _, ps.map (·.1), rfl, .inl (SqL.of e4), TsA.keep (TK.of s4) _ _ (isKeys_ts hks), ?_, ?_, ?_, fun q ys hq hys => ?_⟩
    · intro d hd d' hd'
      obtain ⟨x, _, rfl⟩ := List.mem_map.mp hd
      obtain ⟨y, _, rfl⟩ := List.mem_map.mp hd'
      rfl
    · exact .inl fun d hd => by
        obtain ⟨x, _, rfl⟩ := List.mem_map.mp hd
        exact ⟨_, _, rfl⟩
    · intro x _
      rw [depth_pd]
      omega
    · refine kq q ys _ _ (Same.trans s3 (Same.trans s4 (Same.new hq _))) upd_same (TsA.keep (TK.new hq _) _ _ hys) (sort_asc hk.nd) fun p => ?_
      rw [sort_mem, ← hpl p]
      simp [plss]
  | @cons v1 u vs ts hv pt =>
    refine ⟨_, rfl, _, tru_l ea, itT (by rw [rev_empty]; rfl) ⟨_, fun _ _ h => h, ?_⟩⟩
    refine ⟨_, rfl, ty_l ea, _, _, v1, rfl, rfl, ea, pop_get _ _, ?_⟩
    rw [pop_rest]
    have k3 : TK H3 (upd H3 a (.lst vs.reverse)) := TK.lst ea _
    have s4 : Same H (upd H3 a (.lst vs.reverse)) := Same.lst s3 ha
    have e3 : upd H3 a (.lst vs.reverse) a = some _ := upd_same
    have eb3 : upd H3 a (.lst vs.reverse) b = some _ := upd_at eb (Ne.symm hab)
    generalize upd H3 a (.lst vs.reverse) = H4 at *
    have hv3 : TrAt H4 v1 u := Ts.keep k3 _ _ hv
    have pt3 := Paired.keep (F := TrAt) keeps_tr k3 pt
    have hnu := nd_pos u
    rw [nds] at hnd
    cases u with
    | fin x =>
      obtain ⟨p, x, rfl, e, hx⟩ := hv3.fin
      refine ⟨_, rfl, p, _, _, _, rfl, rfl, SqT.of e, rfl, rfl, _, rfl, itF dec_end_ask ?_⟩
      refine ⟨nds ts, by rw [nds]; omega, vs, ts, ps, _, rfl, s4, e3, eb3, hk, pt3, fun u hu => hwf u (List.mem_cons_of_mem _ hu), fun p => ?_, by omega, rfl⟩
      rw [← hpl p]
      simp [plss, pls]
    | ask p bs =>
      obtain ⟨p1, r1, b1, xs, rfl, e, er, eb1, tb⟩ := hv3.ask
      have hwu := hwf _ (List.mem_cons_self ..)
      have hxs : xs.length = bs.length := by rw [tb.length, List.length_map]
      rw [nd] at hnd
      have hbn := nds_len bs
      have hpL : p ∈ L := hwu.pls_sub (by rw [pls]; exact List.mem_cons_self ..)
      refine ⟨_, rfl, p1, _, _, _, rfl, rfl, SqT.of e, rfl, rfl, _, rfl, itT (dec_same _) ?_⟩
      refine ⟨_, rfl, p1, _, _, _, rfl, rfl, SqT.of e, rfl, b1, _, rfl, .inr (SqT.of eb1), _, rfl, _, rfl, p1, _, _, _, rfl, rfl, SqT.of e, rfl, b, _, rfl, PD_put eb3 hk er, ?_⟩
      generalize hx : V.int ↑xs.length = xv
      have k5 : TK H4 (upd H4 b (.dT ((putP ps p xv).map pkv))) := TK.dict eb3 _
      have s5 : Same H (upd H4 b (.dT ((putP ps p xv).map pkv))) := Same.lst s4 hb0
      have e5 : upd H4 b (.dT ((putP ps p xv).map pkv)) b = some _ := upd_same
      have ea5 : upd H4 b (.dT ((putP ps p xv).map pkv)) a = some _ := upd_at e3 hab
      generalize upd H4 b (.dT ((putP ps p xv).map pkv)) = H5 at *
      refine ⟨_, rfl, ty_l ea5, _, rfl, p1, _, _, _, rfl, rfl, SqT.of (k5 _ _ e), rfl, a, b1, _, _, rfl, rfl, ea5, k5 _ _ eb1, le_line (by rw [List.length_reverse]; rw [List.length_cons] at hvl; omega), ?_⟩
      have k6 : TK H5 (upd H5 a (.lst (vs.reverse ++ xs))) := TK.lst ea5 _
      refine ⟨nds (bs.reverse ++ ts), ?_, xs.reverse ++ vs, bs.reverse ++ ts, putP ps p xv, _, rfl, Same.lst s5 ha, ?_, upd_at e5 (Ne.symm hab), hk.put (M.ok p hpL) _, Paired.append (Paired.keep (F := TrAt) keeps_tr (TK.trans k5 k6) (Paired.rev (of_tsA tb))) (Paired.keep (F := TrAt) keeps_tr (TK.trans k5 k6) pt3), fun u hu => ?_, fun q => ?_, ?_, rfl⟩
      · rw [nds_append, nds_rev, nds, nd]; omega
      · rw [upd_same, List.reverse_append, List.reverse_reverse]
      · rcases List.mem_append.mp hu with hu | hu
        · cases hwu with
          | ask _ _ hb => exact (hb u (List.mem_reverse.mp hu)).mono fun x hx => rem_sub hx
        · exact hwf u (List.mem_cons_of_mem _ hu)
      · rw [← hpl q, putP_keys, plss_append, plss_rev, plss, pls, List.mem_append, List.mem_cons]
        constructor
        · rintro ((h | h) | (h | h))
          · exact .inl h
          · exact .inr (.inl (.inl h))
          · exact .inr (.inl (.inr h))
          · exact .inr (.inr h)
        · rintro (h | (h | h) | h)
          · exact .inl (.inl h)
          · exact .inl (.inr h)
          · exact .inr (.inl h)
          · exact .inr (.inr h)
      · rw [nds_append, nds_rev]; omega

/-! ### has_one_value -/
abbrev Kf := Pl → Option Nat
/-- an open part: a tree and known answers -/
def HoAt (H : Hp) (v : V) (x : Tr × Kf) : Prop := ∃ q y a, v = V.ref q ∧ H q = some (.tup [y, .ref a]) ∧ TrAt H y x.1 ∧ KnAt H a x.2
theorem KnAt.td {H H' : Hp} {a : Addr} {k : Kf} (h : KnAt H a k) (t : TD H H') : KnAt H' a k := let ⟨ps, h1, h2⟩ := h; ⟨ps, t _ _ (fun _ z => nomatch z) h1, h2⟩
theorem keeps_ho : KeepsD HoAt := fun _ _ _ _ t ⟨q, y, a, h1, h2, h3, h4⟩ => ⟨q, y, a, h1, t.tk _ _ h2, Ts.keep t.tk _ _ h3, h4.td t⟩
def kids (bs : List Tr) (k : Kf) (p : Pl) : List (Tr × Kf) := (List.range bs.length).map fun d => (bs.getD d default, kst k p d)
theorem kids_len (bs : List Tr) (k : Kf) (p : Pl) : (kids bs k p).length = bs.length := by rw [kids, List.length_map, List.length_range]
theorem kids_at {bs : List Tr} {k : Kf} {p : Pl} {i : Nat} {x : Tr × Kf} (h : (kids bs k p)[i]? = some x) : ∃ b, bs[i]? = some b ∧ x = (b, kst k p i) := by
  rw [kids, List.getElem?_map] at h
  cases h1 : (List.range bs.length)[i]? with
  | none => rw [h1] at h; cases h
  | some j =>
    rw [h1] at h
    obtain ⟨h2, h3⟩ := List.getElem?_eq_some_iff.mp h1
    rw [List.getElem_range] at h3
    subst h3
    rw [List.length_range] at h2
    have hb : bs[i]? = some bs[i] := List.getElem?_eq_getElem h2
    refine ⟨_, hb, ?_⟩
    have := Option.some.inj h
    rw [← this]
    show (bs.getD i default, kst k p i) = _
    rw [List.getD_eq_getElem?_getD, hb]
    rfl
theorem kids_mem {bs : List Tr} {k : Kf} {p : Pl} {x : Tr × Kf} : x ∈ kids bs k p ↔ ∃ (i : Nat) (b : Tr), bs[i]? = some b ∧ x = (b, kst k p i) := by
  constructor
  · intro h
    obtain ⟨i, hi⟩ := List.getElem?_of_mem h
    obtain ⟨b, h1, h2⟩ := kids_at hi
    exact ⟨i, b, h1, h2⟩
  · rintro ⟨i, b, h1, rfl⟩
    refine List.mem_map.mpr ⟨i, List.mem_range.mpr (List.getElem?_eq_some_iff.mp h1).1, ?_⟩
    rw [List.getD_eq_getElem?_getD, h1]
    rfl
def ndk : List (Tr × Kf) → Nat
  | [] => 0
  | x :: xs => nd x.1 + ndk xs
theorem ndk_append : ∀ xs ys : List (Tr × Kf), ndk (xs ++ ys) = ndk xs + ndk ys
  | [], ys => by simp [ndk]
  | x :: xs, ys => by rw [List.cons_append, ndk, ndk, ndk_append xs ys]; omega
theorem ndk_nds : ∀ xs : List (Tr × Kf), ndk xs = nds (xs.map (·.1))
  | [] => rfl
  | x :: xs => by rw [ndk, List.map_cons, nds, ndk_nds xs]
theorem kids_nd (bs : List Tr) (k : Kf) (p : Pl) : ndk (kids bs k p) = nds bs := by
  rw [ndk_nds, kids, List.map_map]
  congr 1
  apply List.ext_getElem (by simp)
  intro i h1 h2
  simp
  rw [List.getElem?_eq_getElem h2]
  rfl
theorem ndk_len : ∀ xs : List (Tr × Kf), xs.length ≤ ndk xs
  | [] => Nat.le_refl _
  | x :: xs => by
    have := ndk_len xs
    have := nd_pos x.1
    rw [ndk, List.length_cons]; omega
abbrev sHo : Stmt := top 15
abbrev NHo : List Str := ["tree", "known", "value", "pending", "node", "answers", "d"]
theorem scHo : FnScope NHo ["tree", "known", "value"] (defScope sHo) := ⟨rfl, rfl, rfl, by decide +kernel, rfl, by decide +kernel, by decide +kernel⟩
def spHo : Sp := fun vs H Q _ => ∃ (v x : V) (a : Addr) (t : Tr) (k : Kf) (y : Va) (m : Nat → Nat) (L : List Pl), vs = [v, .ref a, x] ∧ TrAt H v t ∧ KnAt H a k ∧ Ts H x (vd y) ∧ Menu m L ∧ Wf m L t ∧ KOk m L k ∧
  ∀ H', Same H H' → Q (.bl (decide (EqV m L t (fun _ => y) k))) H'
theorem shaped_vd (v : Va) : SeqAt.shaped (vd v) = true := nice_shaped (nice_vd v) (by have := depth_vd v; omega)
theorem ok_ho (D : Def K mg "has_one_value" sHo ["tree", "known", "value"]) (Z : Bi mg) (C_skipped : Cal P w K mg base 1 "skipped" spSkip) (C_with_answer : Cal P w K mg base 1 "with_answer" spWa) : Cal P w K mg base 2 "has_one_value" spHo := by
  refine D.ok scHo (fun vs H Q E h => ?_) (fun f cdv A outer s H vs Q E hr h => ?_)
  · obtain ⟨v, x, a, t, k, y, m, L, rfl, _⟩ := h
    rfl
  obtain ⟨v, x, a, t, k, y, m, L, rfl, ht, hka, hx, M, hw, hko, kq⟩ := h
  have hu := hu_of hr
  have hu64 := hr.units
  refine ⟨_, (pss_cons (ps_set (i := 3) scHo.nd rfl (Or.inl rfl) (pe_lst (pa_cons (pe_tup (pa_cons (pv 0) (pa_cons (pv 1) pa_nil))) pa_nil)))
    (pss_cons (ps_while PassesOwn.never (pt_truth (pv 3) (by intro _; rfl)) (pss_cons (ps_asg (pe_bm0 PySem.F.plainAttrs_list PySem.F.slot_list_pop PySem.F.type_list_pop mt_pop (pv 3)) (pg_tup rfl (pgs_cons (pg_name (i := 4) scHo.nd rfl (Or.inr rfl)) (pgs_cons (pg_name (i := 5) scHo.nd rfl (Or.inr rfl)) pgs_nil))))
    (pss_cons (ps_set (i := 4) scHo.nd rfl (Or.inr rfl) (pe_cal C_skipped (hr.mono (by omega)) (pa_cons (pv 4) (pa_cons (pv 5) pa_nil))))
    (pss_one (ps_if (pt_cmpR op_eq (pe_it (pv 4) pe_int) pe_str (nomark _)) (pss_one (ps_if (pt_cmpR (op_neD hu64) (pe_it (pv 4) pe_int) (pv 2) (nomark _)) (pss_one (ps_ret pe_bl)) pss_nil)) (pss_one (ps_expr (pe_bm PySem.F.plainAttrs_list PySem.F.slot_list_extend PySem.F.type_list_extend mt_extend (pv 3) (pa_cons (pe_lc (own := [("d", 6)]) (g := gName 6) (tt := tYes) rfl scHo.nd (pi_range1 (by rfl) Z.range (pa_cons (pe_callB call_len_seq (by rfl) Z.len PySem.boot_len (pa_cons (pe_it (pv 4) pe_int) pa_nil)) pa_nil)) (blkOk_by (own := [("d", 6)]) (N := NHo) (sc := defScope sHo) (by decide +kernel)) (fun _ _ _ _ _ => (pg_name (i := 6) scHo.nd rfl (Or.inl rfl))) (fun _ _ _ _ _ => by exact pts_nil) (fun _ _ _ _ _ => by exact (pe_tup (pa_cons (pe_itk K rfl (pe_itk K rfl (pv 4) pe_int) (pv 6)) (pa_cons (pe_cal C_with_answer (hr.mono (by omega)) (pa_cons (pv 5) (pa_cons (pe_itk K rfl (pv 4) pe_int) (pa_cons (pv 6) pa_nil)))) pa_nil))))) pa_nil)))))))))
    (pss_one (ps_ret pe_bl)))), ?_⟩
  refine ⟨_, rfl, _, rfl, (by show 2 ≤ sizeLine; decide), fun q0 hq0 => ⟨(by show 1 ≤ sizeLine; decide), fun a0 ha0 => ?_⟩⟩
  generalize d1 : upd H q0 _ = H1 at *
  obtain ⟨s1, e1⟩ := Same.eqn hq0 d1
  generalize d2 : upd H1 a0 _ = H2 at *
  obtain ⟨s2, e2⟩ := Same.eqn ha0 d2
  have s02 := Same.trans s1 s2
  have ha00 := Same.gone s1 ha0
  refine ⟨fun n σ H3 => ∃ vs ts x4 x5 x6, σ = [some v, some (.ref a), some x, some (.ref a0), x4, x5, x6] ∧ Same H H3 ∧ H3 a0 = some (.lst vs.reverse) ∧ Paired (HoAt H3) vs ts ∧ (∀ u ∈ ts, Wf m L u.1 ∧ KOk m L u.2) ∧ ((∀ u ∈ ts, EqV m L u.1 (fun _ => y) u.2) ↔ EqV m L t (fun _ => y) k) ∧ ndk ts ≤ 600 ∧ n = ndk ts,
    ⟨_, [.ref q0], [(t, k)], _, _, _, rfl, s02, e2, .cons ⟨q0, v, a, rfl, s2 _ _ e1, Ts.keep (TK.of s02) _ _ ht, hka.same s02⟩ .nil, fun u hu => by rw [List.mem_singleton.mp hu]; exact ⟨hw, hko⟩, by simp, by have := M.nodes hw; rw [ndk, ndk]; omega, rfl⟩, ?_⟩
  rintro n σ H3 ⟨vs, ts, x4, x5, x6, rfl, s3, ea, pt, hwf, heq, hnd, rfl⟩
  have hvl : vs.length ≤ 600 := by
    have := ndk_len ts
    rw [Paired.len pt]; omega
  cases pt with
  | nil =>
    refine ⟨_, rfl, _, tru_l ea, itF rfl ?_⟩
    have : EqV m L t (fun _ => y) k := heq.mp (by simp)
    have h := kq H3 s3
    rw [decide_eq_true this] at h
    exact h
  | @cons v1 u vs ts hv pt =>
    obtain ⟨u, k1⟩ := u
    refine ⟨_, rfl, _, tru_l ea, itT (by rw [rev_empty]; rfl) ⟨_, fun _ _ h => h, ?_⟩⟩
    refine ⟨_, rfl, ty_l ea, _, _, v1, rfl, rfl, ea, pop_get _ _, ?_⟩
    rw [pop_rest]
    have k3 : TD H3 (upd H3 a0 (.lst vs.reverse)) := TD.lst ea _
    have s4 : Same H (upd H3 a0 (.lst vs.reverse)) := Same.lst s3 ha00
    have e3 : upd H3 a0 (.lst vs.reverse) a0 = some _ := upd_same
    generalize upd H3 a0 (.lst vs.reverse) = H4 at *
    obtain ⟨q1, y1, a1, rfl, eq1, hy1, hk1⟩ := keeps_ho _ _ _ _ k3 hv
    have pt3 := Paired.keepD keeps_ho k3 pt
    obtain ⟨hw1, hko1⟩ : Wf m L u ∧ KOk m L k1 := hwf _ (List.mem_cons_self ..)
    have hnd : nd u + ndk ts ≤ 600 := by rw [ndk] at hnd; exact hnd
    have hndk : ndk ((u, k1) :: ts) = nd u + ndk ts := rfl
    refine ⟨q1, _, rfl, SqT.of eq1, rfl, _, _, rfl, _, _, rfl, rfl, ?_⟩
    refine ⟨_, rfl, _, rfl, y1, a1, u, m, L, L, k1, rfl, hy1, hk1, hw1, hko1, fun r hr1 => ?_⟩
    obtain ⟨w1, w2, w3, w4⟩ := hw1.skip hko1
    have heq1 := eqV_skip hw1 hko1 (fun _ => y)
    generalize sk k1 u = u' at *
    cases u' with
    | fin z =>
      obtain ⟨p, x', rfl, e, hx'⟩ := hr1.fin
      refine ⟨_, rfl, p, _, _, _, rfl, rfl, SqT.of e, rfl, rfl, _, rfl, itT (dec_same _) ?_⟩
      refine ⟨_, rfl, p, _, _, _, rfl, rfl, SqT.of e, rfl, _, rfl, _, _, Ts.dp _ _ hx', Ts.dp _ _ (Ts.keep (TK.of s4) _ _ hx), shaped_vd z, shaped_vd y, _, rfl, ?_⟩
      have hfin := eqV_fin (m := m) (P := L) (k := k1) hko1 M.pos z y
      by_cases hzy : z = y
      · subst hzy
        refine itF (by rw [(nice_eqv _ _ (nice_vd z) (nice_vd z)).mpr rfl]; rfl) ?_
        refine ⟨ndk ts, by rw [hndk]; have := nd_pos u; omega, vs, ts, _, _, _, rfl, s4, e3, pt3, fun u hu => hwf u (List.mem_cons_of_mem _ hu), ?_, by omega, rfl⟩
        rw [← heq]
        constructor
        · intro h u hu
          rcases List.mem_cons.mp hu with hu | hu
          · rw [hu]; exact heq1.mp (hfin.mpr rfl)
          · exact h u hu
        · exact fun h u hu => h u (List.mem_cons_of_mem _ hu)
      · refine itT (b := !PyData.eqv (vd z) (vd y)) ?_ ?_
        · have : PyData.eqv (vd z) (vd y) = false := by
            cases h : PyData.eqv (vd z) (vd y) with
            | false => rfl
            | true => exact absurd (vd_inj ((nice_eqv _ _ (nice_vd z) (nice_vd y)).mp h)) hzy
          rw [this]
          rfl
        · have : ¬ EqV m L t (fun _ => y) k := fun h => hzy (hfin.mp (heq1.mpr ((heq.mpr h) _ (List.mem_cons_self ..))))
          have h := kq H4 s4
          rw [decide_eq_false this] at h
          exact h
    | ask p bs =>
      obtain ⟨p1, r1, b1, xs, rfl, e, er, eb1, tb⟩ := hr1.ask
      have hkn := w3 p bs rfl
      have hxs : xs.length = bs.length := by rw [tb.length, List.length_map]
      rw [nd] at w2
      have hbn := nds_len bs
      cases w1 with
      | ask hp hl hb =>
      refine ⟨_, rfl, p1, _, _, _, rfl, rfl, SqT.of e, rfl, rfl, _, rfl, itF dec_ask_end ?_⟩
      refine ⟨_, rfl, ty_l e3, _, rfl, p1, _, _, _, rfl, rfl, SqT.of e, rfl, b1, _, rfl, .inr (SqT.of eb1), _, rfl, by omega, by omega, fun D0 hD0 => ?_⟩
      refine lc_rangeM (n := xs.length) (F := HoAt) keeps_ho (kids bs k1 p) (by rw [kids_len, hxs]) (by omega) hD0 (fun i H5 z hz s5 Q5 hq5 => ⟨rfl, ?_⟩) (fun H5 acc s5 eD hacc => ?_)
      · obtain ⟨b, hb1, rfl⟩ := kids_at hz
        obtain ⟨vb, hvb, htb⟩ := TrAt.kid tb hb1
        refine ⟨_, rfl, p1, _, _, _, rfl, rfl, SqT.of (s5 _ _ e), rfl, _, rfl, b1, _, _, _, rfl, rfl, SqT.of (s5 _ _ eb1), atI_nat hvb, ?_⟩
        refine ⟨_, rfl, _, rfl, p1, _, _, _, rfl, rfl, SqT.of (s5 _ _ e), rfl, _, rfl, a1, r1, i, p, k1, rfl, hk1.same s5, s5 _ _ er, M.ok p hp, fun r5 H6 hr5 s6 hk6 => ⟨(by show 2 ≤ sizeLine; decide), fun p5 hp5 => ?_⟩⟩
        exact hq5 _ _ (Same.trans s6 (Same.new hp5 _)) ⟨p5, vb, r5, rfl, upd_same, Ts.keep (TK.of (Same.trans s5 (Same.trans s6 (Same.new hp5 _)))) _ _ htb, hk6.same (Same.new hp5 _)⟩
      · have hal : acc.length = bs.length := by rw [Paired.len hacc, kids_len]
        refine ⟨a0, D0, _, _, rfl, rfl, s5 _ _ e3, eD, le_line (by rw [List.length_reverse]; rw [List.length_cons] at hvl; omega), ?_⟩
        have k6 : TD H5 (upd H5 a0 (.lst (vs.reverse ++ acc))) := TD.lst (s5 _ _ e3) _
        refine ⟨ndk ((kids bs k1 p).reverse ++ ts), ?_, acc.reverse ++ vs, (kids bs k1 p).reverse ++ ts, _, _, _, rfl, Same.lst (Same.trans s4 s5) ha00, ?_, Paired.append (Paired.keepD keeps_ho k6 (Paired.rev hacc)) (Paired.keepD keeps_ho (TD.trans (TD.of s5) k6) pt3), fun u hu => ?_, ?_, ?_, rfl⟩
        · rw [ndk_append, ndk_nds, List.map_reverse, nds_rev, ← ndk_nds, kids_nd, hndk]; omega
        · rw [upd_same, List.reverse_append, List.reverse_reverse]
        · rcases List.mem_append.mp hu with hu | hu
          · obtain ⟨i, b, h1, rfl⟩ := kids_mem.mp (List.mem_reverse.mp hu)
            have hi := (List.getElem?_eq_some_iff.mp h1).1
            exact ⟨(hb b (List.mem_of_getElem? h1)).mono fun x hx => rem_sub hx, hko1.kst hp (by rw [← hl]; exact hi)⟩
          · exact hwf u (List.mem_cons_of_mem _ hu)
        · rw [← heq]
          have h1 := eqV_ask (bs := bs) hp hl hkn (fun _ => y)
          constructor
          · intro h u hu
            rcases List.mem_cons.mp hu with hu | hu
            · rw [hu]
              refine heq1.mp (h1.mpr fun d b hdb => ?_)
              exact h (b, kst k1 p d) (List.mem_append_left _ (List.mem_reverse.mpr (kids_mem.mpr ⟨d, b, hdb, rfl⟩)))
            · exact h u (List.mem_append_right _ hu)
          · intro h u hu
            rcases List.mem_append.mp hu with hu | hu
            · obtain ⟨i, b, h2, rfl⟩ := kids_mem.mp (List.mem_reverse.mp hu)
              exact h1.mp (heq1.mpr (h _ (List.mem_cons_self ..))) i b h2
            · exact h u (List.mem_cons_of_mem _ hu)
        · rw [ndk_append, ndk_nds, List.map_reverse, nds_rev, ← ndk_nds, kids_nd]; omega
end K16

set_option Elab.async false
set_option linter.all false
set_option maxRecDepth 100000
set_option maxHeartbeats 4000000
/-! same_function, sides_of. -/
namespace K16
open PySem PySem.Spec PyProof.Rows L2
open Classical
variable {P : Program} {w : World} {K : PySem.W.Frag} {mg : Str → Option Value} {base : Heap}

/-! ### same_function -/
/-- a part whose places are not yet known -/
def Fresh (m : Nat → Nat) (L : List Pl) (x : Tr × Kf) : Prop := ∃ Li, Wf m Li x.1 ∧ (∀ p ∈ Li, p ∈ L ∧ x.2 p = none) ∧ KOk m L x.2
theorem Fresh.kid {m : Nat → Nat} {L : List Pl} {p : Pl} {bs : List Tr} {k : Kf} (h : Fresh m L (.ask p bs, k)) {i : Nat} {b : Tr} (hb : bs[i]? = some b) : Fresh m L (b, kst k p i) := by
  obtain ⟨Li, hw, hL, hk⟩ := h
  cases hw with
  | ask hp hl hbs =>
    have hi := (List.getElem?_eq_some_iff.mp hb).1
    refine ⟨rem Li p, hbs b (List.mem_of_getElem? hb), fun q hq => ?_, hk.kst (hL p hp).1 (by rw [← hl]; exact hi)⟩
    obtain ⟨h1, h2⟩ := mem_rem.mp hq
    refine ⟨(hL q h1).1, ?_⟩
    show (if q = p then some i else k q) = none
    rw [if_neg h2]
    exact (hL q h1).2
theorem Fresh.root {m : Nat → Nat} {L : List Pl} {p : Pl} {bs : List Tr} {k : Kf} (h : Fresh m L (.ask p bs, k)) : p ∈ L ∧ bs.length = m p.2 ∧ k p = none := by
  obtain ⟨Li, hw, hL, hk⟩ := h
  cases hw with
  | ask hp hl hbs => exact ⟨(hL p hp).1, hl, (hL p hp).2⟩
theorem eqV_sym {m : Nat → Nat} {L : List Pl} {t u : Tr} {k : Kf} : EqV m L t (ev u) k ↔ EqV m L u (ev t) k := ⟨fun h f a b => (h f a b).symm, fun h f a b => (h f a b).symm⟩
abbrev sSf : Stmt := top 16
abbrev NSf : List Str := ["tree", "other", "pending", "node", "known", "d"]
theorem scSf : FnScope NSf ["tree", "other"] (defScope sSf) := ⟨rfl, rfl, rfl, by decide +kernel, rfl, by decide +kernel, by decide +kernel⟩
def spSf : Sp := fun vs H Q _ => ∃ (v x : V) (t u : Tr) (m : Nat → Nat) (L : List Pl), vs = [v, x] ∧ TrAt H v t ∧ TrAt H x u ∧ Menu m L ∧ Wf m L t ∧ Wf m L u ∧
  ∀ H', Same H H' → Q (.bl (decide (EqV m L t (ev u) fun _ => none))) H'
theorem ok_sf (D : Def K mg "same_function" sSf ["tree", "other"]) (Z : Bi mg) (C_has_one_value : Cal P w K mg base 2 "has_one_value" spHo) (C_with_answer : Cal P w K mg base 1 "with_answer" spWa) : Cal P w K mg base 3 "same_function" spSf := by
  refine D.ok scSf (fun vs H Q E h => ?_) (fun f cdv A outer s H vs Q E hr h => ?_)
  · obtain ⟨v, x, t, u, m, L, rfl, _⟩ := h
    rfl
  obtain ⟨v, x, t, ot, m, L, rfl, ht, hx, M, hw, hwo, kq⟩ := h
  have hu := hu_of hr
  have hu64 := hr.units
  refine ⟨_, (pss_cons (ps_set (i := 2) scSf.nd rfl (Or.inl rfl) (pe_lst (pa_cons (pe_tup (pa_cons (pv 0) (pa_cons pe_dnewT pa_nil))) pa_nil)))
    (pss_cons (ps_while PassesOwn.never (pt_truth (pv 2) (by intro _; rfl)) (pss_cons (ps_asg (pe_bm0 PySem.F.plainAttrs_list PySem.F.slot_list_pop PySem.F.type_list_pop mt_pop (pv 2)) (pg_tup rfl (pgs_cons (pg_name (i := 3) scSf.nd rfl (Or.inr rfl)) (pgs_cons (pg_name (i := 4) scSf.nd rfl (Or.inr rfl)) pgs_nil))))
    (pss_one (ps_if (pt_cmpR op_eq (pe_it (pv 3) pe_int) pe_str (nomark _)) (pss_one (ps_if (pt_not (pt_val (pe_cal C_has_one_value (hr.mono (by omega)) (pa_cons (pv 1) (pa_cons (pv 4) (pa_cons (pe_it (pv 3) pe_int) pa_nil)))))) (pss_one (ps_ret pe_bl)) pss_nil)) (pss_one (ps_expr (pe_bm PySem.F.plainAttrs_list PySem.F.slot_list_extend PySem.F.type_list_extend mt_extend (pv 2) (pa_cons (pe_lc (own := [("d", 5)]) (g := gName 5) (tt := tYes) rfl scSf.nd (pi_range1 (by rfl) Z.range (pa_cons (pe_callB call_len_seq (by rfl) Z.len PySem.boot_len (pa_cons (pe_it (pv 3) pe_int) pa_nil)) pa_nil)) (blkOk_by (own := [("d", 5)]) (N := NSf) (sc := defScope sSf) (by decide +kernel)) (fun _ _ _ _ _ => (pg_name (i := 5) scSf.nd rfl (Or.inl rfl))) (fun _ _ _ _ _ => by exact pts_nil) (fun _ _ _ _ _ => by exact (pe_tup (pa_cons (pe_itk K rfl (pe_itk K rfl (pv 3) pe_int) (pv 5)) (pa_cons (pe_cal C_with_answer (hr.mono (by omega)) (pa_cons (pv 4) (pa_cons (pe_itk K rfl (pv 3) pe_int) (pa_cons (pv 5) pa_nil)))) pa_nil))))) pa_nil))))))))
    (pss_one (ps_ret pe_bl)))), ?_⟩
  refine ⟨_, rfl, fun a hna => ⟨(by show 2 ≤ sizeLine; decide), fun q0 hq0 => ⟨(by show 1 ≤ sizeLine; decide), fun a0 ha0 => ?_⟩⟩⟩
  generalize d0 : upd H a _ = H0 at *
  obtain ⟨s0, e0⟩ := Same.eqn hna d0
  generalize d1 : upd H0 q0 _ = H1 at *
  obtain ⟨s1, e1⟩ := Same.eqn hq0 d1
  generalize d2 : upd H1 a0 _ = H2 at *
  obtain ⟨s2, e2⟩ := Same.eqn ha0 d2
  have s02 := Same.trans s0 (Same.trans s1 s2)
  have ha00 := Same.gone (Same.trans s0 s1) ha0
  have hk0 : KnAt H2 a fun _ => none := KnAt.nil (s2 _ _ (s1 _ _ e0))
  refine ⟨fun n σ H3 => ∃ vs ts x4 x5 x6, σ = [some v, some x, some (.ref a0), x4, x5, x6] ∧ Same H H3 ∧ H3 a0 = some (.lst vs.reverse) ∧ Paired (HoAt H3) vs ts ∧ (∀ u ∈ ts, Fresh m L u) ∧ ((∀ u ∈ ts, EqV m L u.1 (ev ot) u.2) ↔ EqV m L t (ev ot) fun _ => none) ∧ ndk ts ≤ 600 ∧ n = ndk ts,
    ⟨_, [.ref q0], [(t, fun _ => none)], _, _, _, rfl, s02, e2, .cons ⟨q0, v, a, rfl, s2 _ _ e1, Ts.keep (TK.of s02) _ _ ht, hk0⟩ .nil, fun u hu => by rw [List.mem_singleton.mp hu]; exact ⟨L, hw, fun p hp => ⟨hp, rfl⟩, fun _ _ z => nomatch z⟩, by simp, by have := M.nodes hw; rw [ndk, ndk]; omega, rfl⟩, ?_⟩
  rintro n σ H3 ⟨vs, ts, x4, x5, x6, rfl, s3, ea, pt, hwf, heq, hnd, rfl⟩
  have hvl : vs.length ≤ 600 := by
    have := ndk_len ts
    rw [Paired.len pt]; omega
  cases pt with
  | nil =>
    refine ⟨_, rfl, _, tru_l ea, itF rfl ?_⟩
    have : EqV m L t (ev ot) fun _ => none := heq.mp (by simp)
    have h := kq H3 s3
    rw [decide_eq_true this] at h
    exact h
  | @cons v1 u vs ts hv pt =>
    obtain ⟨u, k1⟩ := u
    refine ⟨_, rfl, _, tru_l ea, itT (by rw [rev_empty]; rfl) ⟨_, fun _ _ h => h, ?_⟩⟩
    refine ⟨_, rfl, ty_l ea, _, _, v1, rfl, rfl, ea, pop_get _ _, ?_⟩
    rw [pop_rest]
    have k3 : TD H3 (upd H3 a0 (.lst vs.reverse)) := TD.lst ea _
    have s4 : Same H (upd H3 a0 (.lst vs.reverse)) := Same.lst s3 ha00
    have e3 : upd H3 a0 (.lst vs.reverse) a0 = some _ := upd_same
    generalize upd H3 a0 (.lst vs.reverse) = H4 at *
    obtain ⟨q1, y1, a1, rfl, eq1, hy1, hk1⟩ := keeps_ho _ _ _ _ k3 hv
    have pt3 := Paired.keepD keeps_ho k3 pt
    have hfr : Fresh m L (u, k1) := hwf _ (List.mem_cons_self ..)
    have hnd : nd u + ndk ts ≤ 600 := by rw [ndk] at hnd; exact hnd
    have hndk : ndk ((u, k1) :: ts) = nd u + ndk ts := rfl
    have hupos := nd_pos u
    refine ⟨q1, _, rfl, SqT.of eq1, rfl, _, _, rfl, _, _, rfl, rfl, ?_⟩
    cases u with
    | fin z =>
      obtain ⟨p, x', rfl, e, hx'⟩ := hy1.fin
      refine ⟨_, rfl, p, _, _, _, rfl, rfl, SqT.of e, rfl, rfl, _, rfl, itT (dec_same _) ?_⟩
      refine ⟨_, rfl, _, rfl, _, rfl, p, _, _, _, rfl, rfl, SqT.of e, rfl, x, x', a1, ot, k1, z, m, L, rfl, Ts.keep (TK.of s4) _ _ hx, hk1, hx', M, hwo, hfr.choose_spec.2.2, fun H5 s5 => ⟨_, rfl, ?_⟩⟩
      have hiff : EqV m L ot (fun _ => z) k1 ↔ EqV m L (.fin z) (ev ot) k1 := eqV_sym (t := ot) (u := .fin z)
      by_cases hz : EqV m L ot (fun _ => z) k1
      · refine itF (by rw [decide_eq_true hz]; rfl) ?_
        refine ⟨ndk ts, by rw [hndk]; omega, vs, ts, _, _, _, rfl, Same.trans s4 s5, s5 _ _ e3, Paired.keepD keeps_ho (TD.of s5) pt3, fun u hu => hwf u (List.mem_cons_of_mem _ hu), ?_, by omega, rfl⟩
        rw [← heq]
        constructor
        · intro h u hu
          rcases List.mem_cons.mp hu with hu | hu
          · rw [hu]; exact hiff.mp hz
          · exact h u hu
        · exact fun h u hu => h u (List.mem_cons_of_mem _ hu)
      · refine itT (by rw [decide_eq_false hz]; rfl) ?_
        have : ¬ EqV m L t (ev ot) fun _ => none := fun h => hz (hiff.mpr ((heq.mpr h) _ (List.mem_cons_self ..)))
        have h := kq H5 (Same.trans s4 s5)
        rw [decide_eq_false this] at h
        exact h
    | ask p bs =>
      obtain ⟨p1, r1, b1, xs, rfl, e, er, eb1, tb⟩ := hy1.ask
      obtain ⟨hp, hl, hkn⟩ := hfr.root
      have hxs : xs.length = bs.length := by rw [tb.length, List.length_map]
      have hndb : nd (.ask p bs) = 1 + nds bs := rfl
      have hbn := nds_len bs
      refine ⟨_, rfl, p1, _, _, _, rfl, rfl, SqT.of e, rfl, rfl, _, rfl, itF dec_ask_end ?_⟩
      refine ⟨_, rfl, ty_l e3, _, rfl, p1, _, _, _, rfl, rfl, SqT.of e, rfl, b1, _, rfl, .inr (SqT.of eb1), _, rfl, by omega, by omega, fun D0 hD0 => ?_⟩
      refine lc_rangeM (n := xs.length) (F := HoAt) keeps_ho (kids bs k1 p) (by rw [kids_len, hxs]) (by omega) hD0 (fun i H5 z hz s5 Q5 hq5 => ⟨rfl, ?_⟩) (fun H5 acc s5 eD hacc => ?_)
      · obtain ⟨b, hb1, rfl⟩ := kids_at hz
        obtain ⟨vb, hvb, htb⟩ := TrAt.kid tb hb1
        refine ⟨_, rfl, p1, _, _, _, rfl, rfl, SqT.of (s5 _ _ e), rfl, _, rfl, b1, _, _, _, rfl, rfl, SqT.of (s5 _ _ eb1), atI_nat hvb, ?_⟩
        refine ⟨_, rfl, _, rfl, p1, _, _, _, rfl, rfl, SqT.of (s5 _ _ e), rfl, _, rfl, a1, r1, i, p, k1, rfl, hk1.same s5, s5 _ _ er, M.ok p hp, fun r5 H6 hr5 s6 hk6 => ⟨(by show 2 ≤ sizeLine; decide), fun p5 hp5 => ?_⟩⟩
        exact hq5 _ _ (Same.trans s6 (Same.new hp5 _)) ⟨p5, vb, r5, rfl, upd_same, Ts.keep (TK.of (Same.trans s5 (Same.trans s6 (Same.new hp5 _)))) _ _ htb, hk6.same (Same.new hp5 _)⟩
      · have hal : acc.length = bs.length := by rw [Paired.len hacc, kids_len]
        refine ⟨a0, D0, _, _, rfl, rfl, s5 _ _ e3, eD, le_line (by rw [List.length_reverse]; rw [List.length_cons] at hvl; omega), ?_⟩
        have k6 : TD H5 (upd H5 a0 (.lst (vs.reverse ++ acc))) := TD.lst (s5 _ _ e3) _
        refine ⟨ndk ((kids bs k1 p).reverse.reverse ++ ts), ?_, acc.reverse ++ vs, (kids bs k1 p).reverse ++ ts, _, _, _, rfl, Same.lst (Same.trans s4 s5) ha00, ?_, Paired.append (Paired.keepD keeps_ho k6 (Paired.rev hacc)) (Paired.keepD keeps_ho (TD.trans (TD.of s5) k6) pt3), fun u hu => ?_, ?_, ?_, ?_⟩
        · rw [List.reverse_reverse, ndk_append, kids_nd, hndk, hndb]; omega
        · rw [upd_same, List.reverse_append, List.reverse_reverse]
        · rcases List.mem_append.mp hu with hu | hu
          · obtain ⟨i, b, h1, rfl⟩ := kids_mem.mp (List.mem_reverse.mp hu)
            exact hfr.kid h1
          · exact hwf u (List.mem_cons_of_mem _ hu)
        · rw [← heq]
          have h1 := eqV_ask (bs := bs) hp hl hkn (ev ot)
          constructor
          · intro h u hu
            rcases List.mem_cons.mp hu with hu | hu
            · rw [hu]
              refine h1.mpr fun d b hdb => ?_
              exact h (b, kst k1 p d) (List.mem_append_left _ (List.mem_reverse.mpr (kids_mem.mpr ⟨d, b, hdb, rfl⟩)))
            · exact h u (List.mem_append_right _ hu)
          · intro h u hu
            rcases List.mem_append.mp hu with hu | hu
            · obtain ⟨i, b, h2, rfl⟩ := kids_mem.mp (List.mem_reverse.mp hu)
              exact h1.mp (h _ (List.mem_cons_self ..)) i b h2
            · exact h u (List.mem_cons_of_mem _ hu)
        · rw [ndk_append, ndk_nds, List.map_reverse, nds_rev, ← ndk_nds, kids_nd]; omega
        · rw [List.reverse_reverse, ndk_append, ndk_append, ndk_nds ((kids bs k1 p).reverse), List.map_reverse, nds_rev, ← ndk_nds]

/-! ### sides_of -/
theorem eqv_pd {p q : Pl} (hp : PlOk p) (hq : PlOk q) : PyData.eqv (pd p) (pd q) = decide (p = q) := by
  by_cases h : p = q
  · subst h
    rw [(nice_eqv _ _ (nice_pd hp) (nice_pd hp)).mpr rfl, decide_eq_true rfl]
  · rw [decide_eq_false h]
    cases e : PyData.eqv (pd p) (pd q) with
    | false => rfl
    | true => exact absurd (pd_inj ((nice_eqv _ _ (nice_pd hp) (nice_pd hq)).mp e)) h
theorem shaped_pd {p : Pl} (h : PlOk p) : SeqAt.shaped (pd p) = true := nice_shaped (nice_pd h) (by rw [depth_pd]; omega)
def sidesM (m : Nat → Nat) (p : Pl) (t : Tr) : List Tr := (List.range (m p.2)).map fun d => fx p d t
abbrev sSo : Stmt := top 17
abbrev NSo : List Str := ["tree", "place", "pending", "node", "d"]
theorem scSo : FnScope NSo ["tree", "place"] (defScope sSo) := ⟨rfl, rfl, rfl, by decide +kernel, rfl, by decide +kernel, by decide +kernel⟩
def spSo : Sp := fun vs H Q _ => ∃ (v : V) (q : Addr) (t : Tr) (p : Pl) (m : Nat → Nat) (L : List Pl), vs = [v, .ref q] ∧ TrAt H v t ∧ PlA H q p ∧ Menu m L ∧ Wf m L t ∧ p ∈ pls t ∧
  ∀ r ys H', Same H H' → H' r = some (.lst ys) → Paired (TrAt H') ys (sidesM m p t) → Q (.ref r) H'
theorem ok_so (D : Def K mg "sides_of" sSo ["tree", "place"]) (Z : Bi mg) (C_fixed_at : Cal P w K mg base 4 "fixed_at" spFx) : Cal P w K mg base 5 "sides_of" spSo := by
  refine D.ok scSo (fun vs H Q E h => ?_) (fun f cdv A outer s H vs Q E hr h => ?_)
  · obtain ⟨v, q, t, p, m, L, rfl, _⟩ := h
    rfl
  obtain ⟨v, q, t, p, m, L, rfl, ht, hq, M, hw, hp, kq⟩ := h
  have hu := hu_of hr
  have hu64 := hr.units
  have hpL : p ∈ L := hw.pls_sub hp
  refine ⟨_, (pss_cons (ps_set (i := 2) scSo.nd rfl (Or.inl rfl) (pe_lst (pa_cons (pv 0) pa_nil)))
    (pss_cons (ps_while PassesOwn.never (pt_truth (pv 2) (by intro _; rfl)) (pss_cons (ps_set (i := 3) scSo.nd rfl (Or.inl rfl) (pe_bm0 PySem.F.plainAttrs_list PySem.F.slot_list_pop PySem.F.type_list_pop mt_pop (pv 2)))
    (pss_one (ps_if (pt_cmpR op_eq (pe_it (pv 3) pe_int) pe_str (nomark _)) (pss_cons (ps_if (pt_cmpR (op_eqD hu64) (pe_it (pv 3) pe_int) (pv 1) (nomark _)) (pss_one (ps_ret (pe_lc (own := [("d", 4)]) (g := gName 4) (tt := tYes) rfl scSo.nd (pi_range1 (by rfl) Z.range (pa_cons (pe_callB call_len_seq (by rfl) Z.len PySem.boot_len (pa_cons (pe_it (pv 3) pe_int) pa_nil)) pa_nil)) (blkOk_by (own := [("d", 4)]) (N := NSo) (sc := defScope sSo) (by decide +kernel)) (fun _ _ _ _ _ => (pg_name (i := 4) scSo.nd rfl (Or.inl rfl))) (fun _ _ _ _ _ => by exact pts_nil) (fun _ _ _ _ _ => by exact (pe_cal C_fixed_at (hr.mono (by omega)) (pa_cons (pv 0) (pa_cons (pv 1) (pa_cons (pv 4) pa_nil)))))))) pss_nil)
    (pss_one (ps_expr (pe_bm PySem.F.plainAttrs_list PySem.F.slot_list_extend PySem.F.type_list_extend mt_extendT (pv 2) (pa_cons (pe_it (pv 3) pe_int) pa_nil))))) pss_nil))))
    (pss_one (ps_ret (pe_lst pa_nil))))), ?_⟩
  refine ⟨_, rfl, (by show 1 ≤ sizeLine; decide), fun a ha => ?_⟩
  generalize d1 : upd H a _ = H1 at *
  obtain ⟨s1, e1⟩ := Same.eqn ha d1
  refine ⟨fun n σ H2 => ∃ vs ts x3 x4, σ = [some v, some (.ref q), some (.ref a), x3, x4] ∧ Same H H2 ∧ H2 a = some (.lst vs.reverse) ∧ Paired (TrAt H2) vs ts ∧ (∀ u ∈ ts, Wf m L u) ∧ p ∈ plss ts ∧ nds ts ≤ 600 ∧ n = nds ts, ⟨_, [v], [t], _, _, rfl, s1, e1, .cons (Ts.keep (TK.of s1) _ _ ht) .nil, fun u hu => by rw [List.mem_singleton.mp hu]; exact hw, by simpa [plss] using hp, by have := M.nodes hw; rw [nds, nds]; omega, rfl⟩, ?_⟩
  rintro n σ H2 ⟨vs, ts, x3, x4, rfl, s2, e2, pt, hwf, hpt, hnd, rfl⟩
  have hvl : vs.length ≤ 600 := by
    have := nds_len ts
    rw [Paired.len pt]; omega
  cases pt with
  | nil => cases hpt
  | @cons v1 u vs ts hv pt =>
    refine ⟨_, rfl, _, tru_l e2, itT (by rw [rev_empty]; rfl) ⟨_, fun _ _ h => h, ?_⟩⟩
    refine ⟨_, rfl, ty_l e2, _, _, v1, rfl, rfl, e2, pop_get _ _, ?_⟩
    rw [pop_rest]
    have k3 : TK H2 (upd H2 a (.lst vs.reverse)) := TK.lst e2 _
    have s3 : Same H (upd H2 a (.lst vs.reverse)) := Same.lst s2 ha
    have e3 : upd H2 a (.lst vs.reverse) a = some _ := upd_same
    generalize upd H2 a (.lst vs.reverse) = H3 at *
    have hv3 : TrAt H3 v1 u := Ts.keep k3 _ _ hv
    have pt3 := Paired.keep (F := TrAt) keeps_tr k3 pt
    have hnu := nd_pos u
    have hwu := hwf _ (List.mem_cons_self ..)
    rw [nds] at hnd
    cases u with
    | fin x =>
      obtain ⟨p2, x, rfl, e, hx⟩ := hv3.fin
      refine ⟨_, rfl, p2, _, _, _, rfl, rfl, SqT.of e, rfl, rfl, _, rfl, itF dec_end_ask ?_⟩
      refine ⟨nds ts, by rw [nds]; omega, vs, ts, _, _, rfl, s3, e3, pt3, fun u hu => hwf u (List.mem_cons_of_mem _ hu), ?_, by omega, rfl⟩
      simpa [plss, pls] using hpt
    | ask p2 bs =>
      obtain ⟨p1, r1, b1, xs, rfl, e, er, eb, tb⟩ := hv3.ask
      have hxs : xs.length = bs.length := by rw [tb.length, List.length_map]
      rw [nd] at hnd
      have hbn := nds_len bs
      have hp2 : p2 ∈ L := hwu.pls_sub (by rw [pls]; exact List.mem_cons_self ..)
      refine ⟨_, rfl, p1, _, _, _, rfl, rfl, SqT.of e, rfl, rfl, _, rfl, itT (dec_same _) ?_⟩
      refine ⟨_, rfl, p1, _, _, _, rfl, rfl, SqT.of e, rfl, _, rfl, pd p2, pd p, Ts.dp _ _ (PlAt_mk er), Ts.dp _ _ (PlAt_mk (s3 _ _ hq)), shaped_pd (M.plOk p2 hp2), shaped_pd (M.plOk p hpL), _, rfl, ?_⟩
      rw [eqv_pd (M.plOk p2 hp2) (M.plOk p hpL)]
      by_cases h2 : p2 = p
      · subst h2
        refine itT (decide_eq_true rfl) ?_
        have hl : bs.length = m p2.2 := by cases hwu with | ask _ hl _ => exact hl
        refine ⟨_, rfl, p1, _, _, _, rfl, rfl, SqT.of e, rfl, b1, _, rfl, .inr (SqT.of eb), _, rfl, by omega, by omega, fun D0 hD0 => ?_⟩
        refine lc_rangeM (n := xs.length) (F := TrAt) keeps_tr.d (sidesM m p2 t) (by rw [sidesM, List.length_map, List.length_range, hxs, hl]) (by omega) hD0 (fun i H5 z hz s5 Q5 hq5 => ⟨rfl, ?_⟩) (fun H5 acc s5 eD hacc => ?_)
        · have hi : i < m p2.2 ∧ z = fx p2 i t := by
            rw [sidesM, List.getElem?_map] at hz
            cases h1 : (List.range (m p2.2))[i]? with
            | none => rw [h1] at hz; cases hz
            | some j =>
              rw [h1] at hz
              obtain ⟨h2, h3⟩ := List.getElem?_eq_some_iff.mp h1
              rw [List.getElem_range] at h3
              subst h3
              rw [List.length_range] at h2
              exact ⟨h2, (Option.some.inj hz).symm⟩
          obtain ⟨hi, rfl⟩ := hi
          exact ⟨_, rfl, _, rfl, _, rfl, v, q, i, t, m, L, p2, rfl, Ts.keep (TK.of (Same.trans s3 s5)) _ _ ht, s5 _ _ (s3 _ _ hq), M, hw, hpL, hi, fun r H' s h => hq5 r H' s h⟩
        · exact kq D0 acc H5 (Same.trans s3 s5) eD hacc
      · refine itF (decide_eq_false h2) ?_
        refine ⟨_, rfl, ty_l e3, _, rfl, p1, _, _, _, rfl, rfl, SqT.of e, rfl, a, b1, _, _, rfl, rfl, e3, eb, le_line (by rw [List.length_reverse]; rw [List.length_cons] at hvl; omega), ?_⟩
        have k4 : TK H3 (upd H3 a (.lst (vs.reverse ++ xs))) := TK.lst e3 _
        refine ⟨nds (bs.reverse ++ ts), ?_, xs.reverse ++ vs, bs.reverse ++ ts, _, _, rfl, Same.lst s3 ha, ?_, Paired.append (Paired.keep (F := TrAt) keeps_tr k4 (Paired.rev (of_tsA tb))) (Paired.keep (F := TrAt) keeps_tr k4 pt3), fun u hu => ?_, ?_, ?_, rfl⟩
        · rw [nds_append, nds_rev, nds, nd]; omega
        · rw [upd_same, List.reverse_append, List.reverse_reverse]
        · rcases List.mem_append.mp hu with hu | hu
          · cases hwu with
            | ask _ _ hb => exact (hb u (List.mem_reverse.mp hu)).mono fun x hx => rem_sub hx
          · exact hwf u (List.mem_cons_of_mem _ hu)
        · rw [plss_append, plss_rev]
          rw [plss, pls, List.mem_append, List.mem_cons] at hpt
          rcases hpt with (h | h) | h
          · exact absurd h.symm h2
          · exact .inl h
          · exact .inr h
        · rw [nds_append, nds_rev]; omega
end K16

set_option Elab.async false
set_option linter.all false
set_option maxRecDepth 100000
set_option maxHeartbeats 4000000
/-! least_sides, least_node, least. -/
namespace K16
open PySem PySem.Spec PyProof.Rows L2
open Classical
variable {P : Program} {w : World} {K : PySem.W.Frag} {mg : Str → Option Value} {base : Heap}

theorem cut_from {xs : List V} {k : Nat} (h : k ≤ xs.length) : cutV xs (some (k : Int)) none = xs.drop k := by
  unfold cutV
  rw [HT.sIx_nat, HT.sIx_none, Nat.min_eq_left h]
  exact List.take_of_length_le (by rw [List.length_drop]; omega)
theorem cut_to {xs : List V} {k : Nat} (h : k ≤ xs.length) : cutV xs none (some (k : Int)) = xs.take k := by
  unfold cutV
  rw [HT.sIx_nat, HT.sIx_none, Nat.min_eq_left h]
  rw [List.drop_zero, Nat.sub_zero]
theorem find_at {α : Type} {f : α → Bool} : ∀ {l : List α} {i : Nat} {p : α}, l[i]? = some p → (∀ q ∈ l.take i, f q = false) → f p = true → l.find? f = some p
  | a :: l, 0, p, h, _, hf => by
    rw [List.getElem?_cons_zero] at h
    cases h
    rw [List.find?_cons, hf]
  | a :: l, i + 1, p, h, h1, hf => by
    rw [List.getElem?_cons_succ] at h
    rw [List.take_succ_cons] at h1
    rw [List.find?_cons, h1 a (List.mem_cons_self ..)]
    exact find_at h (fun q hq => h1 q (List.mem_cons_of_mem _ hq)) hf
theorem sidesM_at {m : Nat → Nat} {p : Pl} {t : Tr} {i : Nat} {z : Tr} : (sidesM m p t)[i]? = some z ↔ i < m p.2 ∧ z = fx p i t := by
  rw [sidesM, List.getElem?_map]
  constructor
  · intro hz
    cases h1 : (List.range (m p.2))[i]? with
    | none => rw [h1] at hz; cases hz
    | some j =>
      rw [h1] at hz
      obtain ⟨h2, h3⟩ := List.getElem?_eq_some_iff.mp h1
      rw [List.getElem_range] at h3
      subst h3
      rw [List.length_range] at h2
      exact ⟨h2, (Option.some.inj hz).symm⟩
  · rintro ⟨h, rfl⟩
    rw [List.getElem?_range h]
    rfl
theorem sidesM_len (m : Nat → Nat) (p : Pl) (t : Tr) : (sidesM m p t).length = m p.2 := by rw [sidesM, List.length_map, List.length_range]
noncomputable def eqs (m : Nat → Nat) (L : List Pl) (p : Pl) (t : Tr) : List Bool := ((sidesM m p t).drop 1).map fun s => decide (EqV m L (fx p 0 t) (ev s) fun _ => none)
theorem eqs_idle {m : Nat → Nat} {L : List Pl} {p : Pl} {t : Tr} (hw : Wf m L t) (hp : p ∈ L) (hm : ∀ p ∈ L, 0 < m p.2) : (eqs m L p t).all id = decide (Idle m L (ev t) p) := by
  have h1 := idle_sides hw hp hm
  have h2 : (eqs m L p t).all id = true ↔ ∀ d, d < m p.2 → EqV m L (fx p 0 t) (ev (fx p d t)) fun _ => none := by
    rw [List.all_eq_true]
    constructor
    · intro h d hd
      cases d with
      | zero => exact fun f _ _ => rfl
      | succ d =>
        have h3 : (sidesM m p t)[1 + d]? = some (fx p (d + 1) t) := by rw [Nat.add_comm]; exact sidesM_at.mpr ⟨hd, rfl⟩
        have h4 : fx p (d + 1) t ∈ (sidesM m p t).drop 1 := List.mem_of_getElem? (by rw [List.getElem?_drop]; exact h3)
        exact of_decide_eq_true (h _ (List.mem_map.mpr ⟨_, h4, rfl⟩))
    · intro h b hb
      obtain ⟨s, hs, rfl⟩ := List.mem_map.mp hb
      obtain ⟨i, hi⟩ := List.getElem?_of_mem hs
      rw [List.getElem?_drop] at hi
      obtain ⟨h3, rfl⟩ := sidesM_at.mp hi
      exact decide_eq_true (h _ h3)
  cases e : (eqs m L p t).all id with
  | true => exact (decide_eq_true (h1.mp (h2.mp e))).symm
  | false =>
    refine (decide_eq_false fun h => ?_).symm
    have := h2.mpr (h1.mpr h)
    rw [e] at this
    cases this
def FbAt (H : Hp) (v : V) (b : Bool) : Prop := v = .bl b
theorem keeps_fb : Keeps FbAt := fun _ _ _ _ _ h => h
theorem fb_map {H : Hp} : ∀ {vs : List V} {bs : List Bool}, Paired (FbAt H) vs bs → vs = bs.map V.bl
  | _, _, .nil => rfl
  | _, _, .cons a t => by rw [List.map_cons, ← fb_map t]; exact congrArg (· :: _) a
abbrev sLs : Stmt := top 18
abbrev NLs : List Str := ["tree", "place", "sides", "side"]
theorem scLs : FnScope NLs ["tree"] (defScope sLs) := ⟨rfl, rfl, rfl, by decide +kernel, rfl, by decide +kernel, by decide +kernel⟩
def LsAt (m : Nat → Nat) (L : List Pl) (t : Tr) (H : Hp) (r : Addr) : Prop := match first m L (ev t) with
  | none => ∃ l, H r = some (.tup [.non, l])
  | some p => ∃ q l ys, H r = some (.tup [.ref q, .ref l]) ∧ PlA H q p ∧ H l = some (.lst ys) ∧ Paired (TrAt H) ys (sidesM m p t)
def spLs : Sp := fun vs H Q _ => ∃ (v : V) (t : Tr) (m : Nat → Nat) (L : List Pl), vs = [v] ∧ TrAt H v t ∧ Menu m L ∧ Wf m L t ∧ ∀ r H', Same H H' → LsAt m L t H' r → Q (.ref r) H'
theorem ok_ls (D : Def K mg "least_sides" sLs ["tree"]) (Z : Bi mg) (C_places_of : Cal P w K mg base 1 "places_of" spPl) (C_sides_of : Cal P w K mg base 5 "sides_of" spSo) (C_same_function : Cal P w K mg base 3 "same_function" spSf) : Cal P w K mg base 6 "least_sides" spLs := by
  refine D.ok scLs (fun vs H Q E h => ?_) (fun f cdv A outer s H vs Q E hr h => ?_)
  · obtain ⟨v, t, m, L, rfl, _⟩ := h
    rfl
  obtain ⟨v, t, m, L, rfl, ht, M, hw, kq⟩ := h
  have hu64 := hr.units
  refine ⟨_, (pss_cons (ps_for PassesOwn.never rfl (pi_list (pe_cal C_places_of (hr.mono (by omega)) (pa_cons (pv 0) pa_nil))) (pg_name (i := 1) scLs.nd rfl (Or.inl rfl)) (pss_cons (ps_set (i := 2) scLs.nd rfl (Or.inr rfl) (pe_cal C_sides_of (hr.mono (by omega)) (pa_cons (pv 0) (pa_cons (pv 1) pa_nil))))
    (pss_one (ps_if (pt_not (pt_val (pe_callB (cr_all rfl) (by rfl) Z.all (by decide +kernel) (pa_cons (pe_lc (own := [("side", 3)]) (g := gName 3) (tt := tYes) rfl scLs.nd (pi_list (pe_slice sl_list (pv 2) (po_some pe_int) po_none)) (blkOk_by (own := [("side", 3)]) (N := NLs) (sc := defScope sLs) (by decide +kernel)) (fun _ _ _ _ _ => (pg_name (i := 3) scLs.nd rfl (Or.inl rfl))) (fun _ _ _ _ _ => by exact pts_nil) (fun _ _ _ _ _ => by exact (pe_cal C_same_function (hr.mono (by omega)) (pa_cons (pe_ilk K rfl (pv 2) pe_int) (pa_cons (pv 3) pa_nil))))) pa_nil)))) (pss_one (ps_ret (pe_tup (pa_cons (pv 1) (pa_cons (pv 2) pa_nil))))) pss_nil))))
    (pss_one (ps_ret (pe_tup (pa_cons pe_non (pa_cons (pe_lst pa_nil) pa_nil)))))), ?_⟩
  refine ⟨_, rfl, v, t, m, L, rfl, ht, M, hw, fun r0 ys0 L2 H1 s1 e1 t1 hasc hmem => ⟨r0, rfl, ⟨_, SqL.of e1⟩, ?_⟩⟩
  have hsub : ∀ p ∈ L2, p ∈ L := fun p hp => hw.pls_sub ((hmem p).mp hp)
  have hfs : first m L (ev t) = L2.find? fun p => decide (¬ Idle m L (ev t) p) := by
    refine find_same M.asc hasc hsub fun p hp h => ?_
    refine Decidable.byContradiction fun hn => ?_
    have h1 : p ∉ pls t := fun z => hn ((hmem p).mpr z)
    exact of_decide_eq_true h (idle_pls hw h1)
  have hyl : ys0.length = L2.length := by rw [t1.length, List.length_map]
  refine for_list (xs := ys0) (fun i σ H2 => ∃ x1 x2 x3, σ = [some v, x1, x2, x3] ∧ Same H1 H2 ∧ ∀ p ∈ L2.take i, Idle m L (ev t) p) ⟨_, _, _, rfl, Same.refl H1, fun p hp => by simp at hp⟩ (fun i σ H2 hi ⟨x1, x2, x3, hσ, s2, _⟩ => SqL.of (s2 _ _ e1)) (fun i x σ H2 hx ⟨x1, x2, x3, hσ, s2, hid⟩ => ?_) (fun σ H2 ⟨x1, x2, x3, hσ, s2, hid⟩ => ?_)
  · subst hσ
    obtain ⟨d, hd, hxd⟩ := Paired.nth' t1.paired hx
    rw [List.getElem?_map] at hd
    cases hLi : L2[i]? with
    | none => rw [hLi] at hd; cases hd
    | some p =>
    rw [hLi] at hd
    have hd : pd p = d := Option.some.inj hd
    subst hd
    obtain ⟨q, rfl, eq⟩ := PlAt_tup hxd
    have hpm : p ∈ L2 := List.mem_of_getElem? hLi
    have hpL := hsub p hpm
    refine ⟨_, rfl, _, rfl, v, q, t, p, m, L, rfl, Ts.keep (TK.of (Same.trans s1 s2)) _ _ ht, s2 _ _ eq, M, hw, (hmem p).mp hpm, fun r3 ys3 H3 s3 e3 t3 => ?_⟩
    have hy3 : ys3.length = m p.2 := by rw [Paired.len t3, sidesM_len]
    have hm1 := M.size p hpL
    have hm0 := M.pos p hpL
    refine ⟨_, rfl, 1, rfl, r3, _, rfl, SqL.of e3, fun a4 ha4 => ?_⟩
    have ecut : cutV ys3 (some 1) none = ys3.drop 1 := cut_from (k := 1) (by omega)
    rw [ecut]
    generalize d4 : upd H3 a4 _ = H4 at *
    obtain ⟨s4, e4⟩ := Same.eqn ha4 d4
    refine ⟨a4, rfl, ⟨_, SqL.of e4⟩, fun D0 hD0 => ?_⟩
    refine lc_listM (F := FbAt) keeps_fb.d (eqs m L p t) (by rw [eqs, List.length_map, List.length_drop, List.length_drop, sidesM_len, hy3]) (by rw [List.length_drop]; omega) hD0 e4 (fun i' x' H5 z hx' hz s5 Q5 hq5 => ⟨rfl, ?_⟩) (fun H5 acc s5 eD hacc => ?_)
    · rw [List.getElem?_drop] at hx'
      obtain ⟨u, hu1, hu2⟩ := Paired.nth' t3 hx'
      rw [eqs, List.getElem?_map, List.getElem?_drop, hu1] at hz
      have hz := Option.some.inj hz
      subst hz
      obtain ⟨h0, h0e⟩ := Paired.nth t3 (i := 0) (sidesM_at.mpr ⟨hm0, rfl⟩)
      obtain ⟨hi1, rfl⟩ := sidesM_at.mp hu1
      have s35 := Same.trans s4 s5
      refine ⟨_, rfl, r3, _, _, _, rfl, rfl, SqL.of (s35 _ _ e3), atI_nat (j := 0) h0e.1, _, rfl, h0, x', fx p 0 t, fx p (1 + i') t, m, L, rfl, Ts.keep (TK.of s35) _ _ h0e.2, Ts.keep (TK.of s35) _ _ hu2, M, (hw.fix hm0).mono fun x hx => rem_sub hx, (hw.fix hi1).mono fun x hx => rem_sub hx, fun H6 s6 => hq5 _ H6 s6 rfl⟩
    · have hb := fb_map hacc
      subst hb
      refine ⟨D0, _, rfl, SqL.of eD, _, rfl, ?_⟩
      rw [eqs_idle hw hpL M.pos]
      have s15 := Same.trans s2 (Same.trans s3 (Same.trans s4 s5))
      by_cases hI : Idle m L (ev t) p
      · refine itF (by rw [decide_eq_true hI]; rfl) ⟨_, _, _, rfl, s15, fun p' hp' => ?_⟩
        rw [take_one hLi] at hp'
        rcases List.mem_append.mp hp' with h | h
        · exact hid p' h
        · rw [List.mem_singleton.mp h]; exact hI
      · refine itT (by rw [decide_eq_false hI]; rfl) ?_
        have s35 := Same.trans s4 s5
        refine ⟨_, rfl, _, rfl, (by show 2 ≤ sizeLine; decide), fun a6 ha6 => kq a6 _ (Same.trans s1 (Same.trans s15 (Same.new ha6 _))) ?_⟩
        have hfp : first m L (ev t) = some p := by
          rw [hfs]
          exact find_at hLi (fun q' hq' => decide_eq_false fun z => z (hid q' hq')) (decide_eq_true hI)
        rw [LsAt, hfp]
        have s5n := Same.new ha6 (.tup [V.ref q, V.ref r3])
        exact ⟨q, r3, ys3, upd_same, s5n _ _ (s15 _ _ eq), s5n _ _ (s35 _ _ e3), Paired.keep (F := TrAt) keeps_tr (TK.of (Same.trans s35 s5n)) t3⟩
  · subst hσ
    refine ⟨Nat.zero_le _, fun a6 ha6 => ⟨(by show 2 ≤ sizeLine; decide), fun a7 ha7 => kq a7 _ (Same.trans s1 (Same.trans s2 (Same.trans (Same.new ha6 _) (Same.new ha7 _)))) ?_⟩⟩
    rw [hyl, List.take_length] at hid
    have hfp : first m L (ev t) = none := by
      rw [hfs]
      exact List.find?_eq_none.mpr fun q hq h => of_decide_eq_true h (hid q hq)
    rw [LsAt, hfp]
    exact ⟨_, upd_same⟩

/-! ### least_node -/
abbrev sLn : Stmt := top 20
abbrev NLn : List Str := ["context", "tree", "place", "sides"]
theorem scLn : FnScope NLn ["context", "tree"] (defScope sLn) := ⟨rfl, rfl, rfl, by decide +kernel, rfl, by decide +kernel, by decide +kernel⟩
theorem ok_ln {m : Nat → Nat} {L : List Pl} (M : Menu m L) (D : Def K mg "least_node" sLn ["context", "tree"]) (Z : Bi mg) (C_least_sides : Cal P w K mg base 6 "least_sides" spLs) (C_any_value : Cal P w K mg base 1 "any_value" spAv) :
    Cal P w K mg base 7 "least_node" (spStep (stepL m L) (Wf m L) fun _ _ => True) := by
  refine D.ok scLn (fun vs H Q E h => ?_) (fun f cdv A outer s H vs Q E hr h => ?_)
  · obtain ⟨c, v, t, rfl, _⟩ := h
    rfl
  obtain ⟨c, v, t, rfl, _, ht, hw, kq⟩ := h
  refine ⟨_, (pss_cons (ps_asg (pe_cal C_least_sides (hr.mono (by omega)) (pa_cons (pv 1) pa_nil)) (pg_tup rfl (pgs_cons (pg_name (i := 2) scLn.nd rfl (Or.inl rfl)) (pgs_cons (pg_name (i := 3) scLn.nd rfl (Or.inl rfl)) pgs_nil))))
    (pss_one (ps_ret (pe_ifExp (pt_cmp (pc_isN (pv 2)) rfl) (pe_tup (pa_cons pe_str (pa_cons (pe_cal C_any_value (hr.mono (by omega)) (pa_cons (pv 1) pa_nil)) pa_nil))) (pe_tup (pa_cons pe_str (pa_cons (pv 2) (pa_cons (pe_callTy call_tuple_of (by rfl) Z.tuple (by decide +kernel) (pa_cons (pv 3) pa_nil)) pa_nil)))))))), ?_⟩
  refine ⟨_, rfl, v, t, m, L, rfl, ht, M, hw, fun r H1 s1 hls => ?_⟩
  rw [LsAt] at hls
  unfold stepL at kq
  cases hf : first m L (ev t) with
  | none =>
    rw [hf] at hls kq
    obtain ⟨l, er⟩ := hls
    refine ⟨r, _, rfl, SqT.of er, rfl, _, _, rfl, _, _, rfl, rfl, ?_⟩
    refine ⟨_, rfl, _, rfl, itT rfl ?_⟩
    refine ⟨_, rfl, v, t, m, L, rfl, Ts.keep (TK.of s1) _ _ ht, hw, M.pos, fun x hx => ⟨(by show 2 ≤ sizeLine; decide), fun a2 ha2 => ?_⟩⟩
    exact kq _ _ (Same.trans s1 (Same.new ha2 _)) (.tup upd_same (.cons (.str _) (.cons (Ts.keep (TK.new ha2 _) _ _ hx) .nil)))
  | some p =>
    rw [hf] at hls kq
    obtain ⟨q, l, ys, er, eq, el, pt⟩ := hls
    refine ⟨r, _, rfl, SqT.of er, rfl, _, _, rfl, _, _, rfl, rfl, ?_⟩
    refine ⟨_, rfl, _, rfl, itF rfl ?_⟩
    refine ⟨_, rfl, _, rfl, l, ys, rfl, .inl ⟨SqL.of el, fun a2 ha2 => ⟨(by show 3 ≤ sizeLine; decide), fun a3 ha3 => ?_⟩⟩⟩
    generalize d2 : upd H1 a2 _ = H2 at *
    obtain ⟨s2, e2⟩ := Same.eqn ha2 d2
    have s3 := Same.new ha3 (.tup [.str "ask", .ref q, .ref a2])
    refine kq _ _ (Same.trans s1 (Same.trans s2 s3)) ?_
    show Ts _ _ _
    rw [tr_ask]
    exact .tup upd_same (.cons (.str _) (.cons (PlAt_mk (s3 _ _ (s2 _ _ eq))) (.cons (.tup (s3 _ _ e2) (tsA_of (Paired.keep (F := TrAt) keeps_tr (TK.of (Same.trans s2 s3)) pt))) .nil)))

/-! ### least -/
abbrev sLe : Stmt := top 21
abbrev NLe : List Str := ["menu", "tree"]
theorem scLe : FnScope NLe ["menu", "tree"] (defScope sLe) := ⟨rfl, rfl, rfl, by decide +kernel, rfl, by decide +kernel, by decide +kernel⟩
def spLe : Sp := fun vs H Q _ => ∃ (x v : V) (t : Tr) (m : Nat → Nat) (L : List Pl), vs = [x, v] ∧ TrAt H v t ∧ Menu m L ∧ Wf m L t ∧ ∀ r H', Same H H' → TrAt H' r (low m L (ev t) zero) → Q r H'
theorem ok_le (D : Def K mg "least" sLe ["menu", "tree"]) (Z : Bi mg) (Dgr : Def K mg "grown" sGr ["expand", "context", "start", "most"]) (Dln : Def K mg "least_node" sLn ["context", "tree"]) (hmost : ∃ u, mg "MOST_NODES" = some u ∧ RelV (.int 2000) u)
    (C_least_sides : Cal P w K mg base 6 "least_sides" spLs) (C_any_value : Cal P w K mg base 1 "any_value" spAv) : Cal P w K mg base 9 "least" spLe := by
  refine D.ok scLe (fun vs H Q E h => ?_) (fun f cdv A outer s H vs Q E hr h => ?_)
  · obtain ⟨x, v, t, m, L, rfl, _⟩ := h
    rfl
  obtain ⟨x, v, t, m, L, rfl, ht, M, hw, kq⟩ := h
  obtain ⟨fE, fdE, psE, FE, hm, kE, bE⟩ := (ok_ln (P := P) (w := w) (base := base) M Dln Z C_least_sides C_any_value).ex
  have C_grown := ok_grown (P := P) (w := w) (base := base) Dgr Z FE kE bE (fun H H' c s h => h) (fun t p ss hw h s hs => by
    unfold stepL at h
    cases hf : first m L (ev t) with
    | none => rw [hf] at h; cases h
    | some p' =>
      rw [hf] at h
      cases h
      obtain ⟨d, hd, rfl⟩ := List.mem_map.mp hs
      exact (hw.fix (List.mem_range.mp hd)).mono fun x hx => rem_sub hx)
  obtain ⟨mu, hmo, hmr⟩ := hmost
  refine ⟨_, (pss_one (ps_ret (pe_cal C_grown (hr.mono (by omega)) (pa_cons (pe_glob (by rfl) hm (show RelV (.ref fE) (.ref fE) from rfl)) (pa_cons (pv 0) (pa_cons (pv 1) (pa_cons (pe_glob (by rfl) hmo hmr) pa_nil))))))), ?_⟩
  refine ⟨_, rfl, _, rfl, x, v, .int 2000, t, low m L (ev t) zero, rfl, .inr rfl, trivial, ht, hw, gr_low M.nodup M.pos L.length L t (Nat.le_refl _) hw (fun q hq => hq), ?_, kq⟩
  have := M.nodes (low_wf (F := ev t) (r := zero) M.nodup M.pos)
  omega
end K16

set_option Elab.async false
set_option linter.all false
set_option maxRecDepth 100000
set_option maxHeartbeats 4000000
/-! numbered, unshared, shared. -/
namespace K16
open PySem PySem.Spec PyProof.Rows L2
open Classical
variable {P : Program} {w : World} {K : PySem.W.Frag} {mg : Str → Option Value} {base : Heap}

/-! ### nodes as keys -/
def nv : Va → NK
  | .z => .num 0
  | .o => .num 1
  | .zo => .tup [.num 0, .num 1]
  | .zz => .tup [.num 0, .num 0]
def nk : Nd → NK
  | .fin v => .tup [.text "end", nv v]
  | .ask p ks => .tup [.text "ask", .tup [.num (p.1 : Int), .num (p.2 : Int)], .tup (ks.map fun (k : Nat) => NestedKey.num (k : Int))]
theorem nums_data : ∀ ks : List Nat, NestedKey.datas (ks.map fun (k : Nat) => NestedKey.num (k : Int)) = ks.map fun (k : Nat) => PyData.int (k : Int)
  | [] => rfl
  | k :: ks => by rw [List.map_cons, List.map_cons, NestedKey.datas, nums_data ks]; rfl
theorem nums_depth : ∀ ks : List Nat, NestedKey.depthAll (ks.map fun (k : Nat) => NestedKey.num (k : Int)) = 0
  | [] => rfl
  | k :: ks => by rw [List.map_cons, NestedKey.depthAll, nums_depth ks]; rfl
theorem nk_data : ∀ x : Nd, (nk x).data = nD x
  | .fin .z => rfl
  | .fin .o => rfl
  | .fin .zo => rfl
  | .fin .zz => rfl
  | .ask p ks => by simp only [nk, nD, pd, NestedKey.data, NestedKey.datas, nums_data]
theorem nk_depth : ∀ x : Nd, (nk x).depth ≤ 8
  | .fin .z => by decide
  | .fin .o => by decide
  | .fin .zo => by decide
  | .fin .zz => by decide
  | .ask p ks => by simp only [nk, NestedKey.depth, NestedKey.depthAll, nums_depth]; omega
theorem ints_inj : ∀ {ks ls : List Nat}, ks.map (fun (k : Nat) => PyData.int (k : Int)) = ls.map (fun (k : Nat) => PyData.int (k : Int)) → ks = ls
  | [], [], _ => rfl
  | [], _ :: _, h => by cases h
  | _ :: _, [], h => by cases h
  | k :: ks, l :: ls, h => by
    rw [List.map_cons, List.map_cons] at h
    obtain ⟨h1, h2⟩ := List.cons.inj h
    have h3 := PyData.int.inj h1
    rw [ints_inj h2, Int.ofNat_inj.mp h3]
theorem nD_inj : ∀ {x y : Nd}, nD x = nD y → x = y
  | .fin v, .fin u, h => by
    have := (List.cons.inj (List.cons.inj (PyData.tuple.inj h)).2).1
    rw [vd_inj this]
  | .fin v, .ask p ks, h => by
    have := (List.cons.inj (List.cons.inj (PyData.tuple.inj h)).2).2
    cases this
  | .ask p ks, .fin v, h => by
    have := (List.cons.inj (List.cons.inj (PyData.tuple.inj h)).2).2
    cases this
  | .ask p ks, .ask q ls, h => by
    have h1 := List.cons.inj (List.cons.inj (PyData.tuple.inj h)).2
    have h2 := ints_inj (PyData.tuple.inj (List.cons.inj h1.2).1)
    rw [pd_inj h1.1, h2]
theorem nk_inj {x y : Nd} (h : nk x = nk y) : x = y := nD_inj (by rw [← nk_data, ← nk_data, h])
/-- what is met: the nodes and their numbers -/
def kvN (ns : List Nd) : List (NK × Int) := ns.zipIdx.map fun x => (nk x.1, ((x.2 : Nat) : Int))
theorem kvN_keys (ns : List Nd) : (kvN ns).map (·.1) = ns.map nk := by
  rw [kvN, List.map_map]
  have : ((fun x : NK × Int => x.1) ∘ fun x : Nd × Nat => (nk x.1, ((x.2 : Nat) : Int))) = nk ∘ Prod.fst := rfl
  rw [this, ← List.map_map, List.zipIdx_map_fst]
theorem kvN_len (ns : List Nd) : (kvN ns).length = ns.length := by rw [kvN, List.length_map, List.length_zipIdx]
theorem kvN_mem {ns : List Nd} {x : Nd} : nk x ∈ (kvN ns).map (·.1) ↔ x ∈ ns := by
  rw [kvN_keys, List.mem_map]
  exact ⟨fun ⟨y, hy, e⟩ => nk_inj e ▸ hy, fun h => ⟨x, h, rfl⟩⟩
theorem kvN_snoc (ns : List Nd) (x : Nd) : kvN (ns ++ [x]) = kvN ns ++ [(nk x, (ns.length : Int))] := by
  rw [kvN, kvN, List.zipIdx_append, List.map_append]
  simp
theorem kvN_find {x : Nd} : ∀ {ns : List Nd} (n : Nat), x ∈ ns → ((ns.zipIdx n).map fun x => (nk x.1, ((x.2 : Nat) : Int))).find? (fun z => decide (z.1 = nk x)) = some (nk x, ((n + ns.idxOf x : Nat) : Int))
  | y :: ns, n, h => by
    rw [List.zipIdx_cons, List.map_cons, List.find?_cons]
    by_cases e : y = x
    · subst e
      simp
    · have h1 : decide (nk y = nk x) = false := decide_eq_false fun z => e (nk_inj z)
      have h2 : x ∈ ns := by
        rcases List.mem_cons.mp h with h | h
        · exact absurd h.symm e
        · exact h
      simp only [h1]
      have h3 : (y :: ns).idxOf x = ns.idxOf x + 1 := by
        have hb : (y == x) = false := beq_eq_false_iff_ne.mpr e
        rw [List.idxOf_cons, hb]
        rfl
      rw [kvN_find (n + 1) h2, h3]
      congr 3
      omega
theorem kvN_get {ns : List Nd} {x : Nd} (h : x ∈ ns) : (kvN ns).find? (fun z => decide (z.1 = nk x)) = some (nk x, ((ns.idxOf x : Nat) : Int)) := by
  have := kvN_find 0 h
  rw [Nat.zero_add] at this
  exact this

/-! ### the run -/
inductive TkN where
  | go (t : Tr)
  | join (p : Pl) (bs : List Tr)
def runN : List TkN → List Nat → List Nd → List Nat × List Nd
  | [], made, ns => (made, ns)
  | .go t :: ts, made, ns => runN ts ((sh t ns).1 :: made) (sh t ns).2
  | .join p bs :: ts, made, ns => runN ts ((ins (.ask p (made.take bs.length).reverse) ns).1 :: made.drop bs.length) (ins (.ask p (made.take bs.length).reverse) ns).2
def fitN : List TkN → Nat → Prop
  | [], _ => True
  | .go _ :: ts, c => fitN ts (c + 1)
  | .join _ bs :: ts, c => bs.length ≤ c ∧ fitN ts (c - bs.length + 1)
def msN : List TkN → Nat
  | [] => 0
  | .go t :: ts => 2 * nd t + msN ts
  | .join _ _ :: ts => 1 + msN ts
theorem msN_len : ∀ ts : List TkN, ts.length ≤ msN ts
  | [] => Nat.le_refl _
  | .go u :: ts => by
    have := msN_len ts
    have := nd_pos u
    rw [msN, List.length_cons]; omega
  | .join _ _ :: ts => by
    have := msN_len ts
    rw [msN, List.length_cons]; omega
theorem goN_ms : ∀ (bs : List Tr) (ts : List TkN), msN (bs.map TkN.go ++ ts) = 2 * nds bs + msN ts
  | [], ts => by simp [nds]
  | b :: bs, ts => by rw [List.map_cons, List.cons_append, msN, goN_ms bs ts, nds]; omega
theorem goN_run : ∀ (bs : List Tr) (ts : List TkN) (made : List Nat) (ns : List Nd), runN (bs.map TkN.go ++ ts) made ns = runN ts ((shs bs ns).1.reverse ++ made) (shs bs ns).2
  | [], ts, made, ns => rfl
  | b :: bs, ts, made, ns => by
    rw [List.map_cons, List.cons_append, runN, goN_run bs, shs]
    simp
theorem goN_fit : ∀ (bs : List Tr) (ts : List TkN) (c : Nat), fitN (bs.map TkN.go ++ ts) c ↔ fitN ts (c + bs.length)
  | [], ts, c => Iff.rfl
  | b :: bs, ts, c => by
    rw [List.map_cons, List.cons_append, fitN, goN_fit bs ts (c + 1), List.length_cons]
    have : c + 1 + bs.length = c + (bs.length + 1) := by omega
    rw [this]
theorem runN_ask (p : Pl) (bs : List Tr) (ts : List TkN) (made : List Nat) (ns : List Nd) : runN (bs.map TkN.go ++ .join p bs :: ts) made ns = runN (.go (.ask p bs) :: ts) made ns := by
  rw [goN_run, runN, runN, sh]
  have hl : (shs bs ns).1.reverse.length = bs.length := by rw [List.length_reverse, shs_klen]
  have h1 : ((shs bs ns).1.reverse ++ made).take bs.length = (shs bs ns).1.reverse := by rw [← hl]; exact List.take_left
  have h2 : ((shs bs ns).1.reverse ++ made).drop bs.length = made := by rw [← hl]; exact List.drop_left
  rw [h1, h2, List.reverse_reverse]
def TkNAt (H : Hp) (v : V) : TkN → Prop
  | .go s => ∃ q x, v = .ref q ∧ H q = some (.tup [.str "go", x]) ∧ TrAt H x s
  | .join p bs => ∃ q x, v = .ref q ∧ H q = some (.tup [.str "join", x]) ∧ TrAt H x (.ask p bs)
theorem keeps_tkN : Keeps TkNAt := fun H H' v a k h => match a, h with
  | .go _, ⟨q, x, h1, h2, h3⟩ => ⟨q, x, h1, k _ _ h2, Ts.keep k _ _ h3⟩
  | .join _ _, ⟨q, x, h1, h2, h3⟩ => ⟨q, x, h1, k _ _ h2, Ts.keep k _ _ h3⟩
theorem goN_at {H : Hp} : ∀ {vs : List V} {ss : List Tr}, Paired (GoAt H) vs ss → Paired (TkNAt H) vs (ss.map TkN.go)
  | _, _, .nil => .nil
  | _, _, .cons a t => .cons a (goN_at t)

/-! ### the tail of a turn -/
def lenR (K : PySem.W.Frag) : List V → Hp → VK → Prop := fun xs H Q => ∃ p ys, xs = [.ref p] ∧ (SqL K H p ys ∨ SqT K H p ys) ∧ Q (.int ys.length) H
def tailT (P : Program) (w : World) (K : PySem.W.Frag) : TS :=
  tSeq (tIfS (tB (tNNot P w (tVar 6) (tVar 4))) (tSeq (sNPut P w (tVar 4) (tVar 6) (tCB (lenR K) (tCons (tVar 3) tNil))) (tDrop (tBM K "list" rAppend (tVar 3) (tCons (tVar 6) tNil)))) tNext)
    (tDrop (tBM K "list" rAppend (tVar 2) (tCons (tNGet P w (tVar 4) (tVar 6)) tNil)))
theorem tail_ok {D : Ends} {σ : L2.St} {H : Hp} {ml nl dl b : Addr} {ys xs : List V} {ns : List Nd} {x : Nd} (h2 : σ[2]? = some (some (.ref ml))) (h3 : σ[3]? = some (some (.ref nl))) (h4 : σ[4]? = some (some (.ref dl))) (h6 : σ[6]? = some (some (.ref b)))
    (em : H ml = some (.lst ys)) (en : H nl = some (.lst xs)) (ed : NDAt P w H dl (kvN ns)) (tx : TsA H xs (ns.map nD)) (hb : Ts H (.ref b) (nD x)) (hne : ml ≠ nl) (hys : ys.length ≤ 5000) (hns : ns.length ≤ 5000)
    (hk : ∀ H' xs', SameBut [ml, nl, dl] H H' → TK H H' → H' ml = some (.lst (ys ++ [.int ((ins x ns).1 : Nat)])) → H' nl = some (.lst xs') → TsA H' xs' ((ins x ns).2.map nD) → NDAt P w H' dl (kvN (ins x ns).2) → D.nx σ H') :
    tailT P w K D σ H := by
  have hdm : dl ≠ ml := by
    obtain ⟨raw, e, _⟩ := ed
    exact ne_of e em (fun z => nomatch z)
  have hdn : dl ≠ nl := by
    obtain ⟨raw, e, _⟩ := ed
    exact ne_of e en (fun z => nomatch z)
  have hxl : xs.length = ns.length := by rw [tx.length, List.length_map]
  have hb' : Ts H (.ref b) (nk x).data := by rw [nk_data]; exact hb
  refine ⟨_, h6, _, h4, dl, kvN ns, nk x, rfl, ed, hb', ⟨b, rfl⟩, nk_depth x, _, rfl, ?_⟩
  unfold ins at hk
  by_cases hx : x ∈ ns
  · simp only [if_pos hx] at hk
    refine itF (by rw [decide_eq_true (kvN_mem.mpr hx)]; rfl) ?_
    refine ⟨_, h2, ty_l em, _, h4, _, h6, dl, kvN ns, nk x, _, rfl, ed, hb', ⟨b, rfl⟩, nk_depth x, kvN_get hx, ml, _, _, rfl, rfl, em, lt_line (by omega), ?_⟩
    have k : TK H (upd H ml (.lst (ys ++ [V.int ((ns.idxOf x : Nat) : Int)]))) := TK.lst em _
    exact hk _ xs (SameBut.put (SameBut.refl _ _) (by simp)) k upd_same (upd_at en (Ne.symm hne)) (TsA.keep k _ _ tx) (ed.keep k (upd_ne hdm))
  · simp only [if_neg hx] at hk
    refine itT (by rw [decide_eq_false (fun z => hx (kvN_mem.mp z))]; rfl) ?_
    refine ⟨_, h3, nl, xs, rfl, .inl (SqL.of en), _, h4, _, h6, dl, kvN ns, nk x, _, rfl, rfl, ed, hb', ⟨b, rfl⟩, nk_depth x, fun z => hx (kvN_mem.mp z), by rw [kvN_len]; omega, fun raw' ed' => ?_⟩
    have k1 : TK H (upd H dl (.ext (ndPhi P w dl raw'))) := by
      obtain ⟨raw, e, _⟩ := ed
      exact TK.ext e _
    have en1 : upd H dl (.ext (ndPhi P w dl raw')) nl = some _ := upd_at en (Ne.symm hdn)
    have em1 : upd H dl (.ext (ndPhi P w dl raw')) ml = some _ := upd_at em (Ne.symm hdm)
    have sb1 : SameBut [ml, nl, dl] H (upd H dl (.ext (ndPhi P w dl raw'))) := SameBut.put (SameBut.refl _ _) (by simp)
    rw [hxl, ← kvN_snoc] at ed'
    generalize upd H dl (.ext (ndPhi P w dl raw')) = H1 at *
    refine ⟨_, h3, ty_l en1, _, h6, nl, _, _, rfl, rfl, en1, lt_line (by omega), ?_⟩
    have k2 : TK H1 (upd H1 nl (.lst (xs ++ [V.ref b]))) := TK.lst en1 _
    have en2 : upd H1 nl (.lst (xs ++ [V.ref b])) nl = some _ := upd_same
    have em2 : upd H1 nl (.lst (xs ++ [V.ref b])) ml = some _ := upd_at em1 hne
    have sb2 : SameBut [ml, nl, dl] H (upd H1 nl (.lst (xs ++ [V.ref b]))) := SameBut.put sb1 (by simp)
    have ed2 := ed'.keep k2 (upd_ne hdn)
    generalize upd H1 nl (.lst (xs ++ [V.ref b])) = H2 at *
    have k12 := TK.trans k1 k2
    have hx2 : x ∈ ns ++ [x] := by simp
    have hidx : (ns ++ [x]).idxOf x = ns.length := by
      rw [List.idxOf_append, if_neg hx]
      simp
    have hg := kvN_get hx2
    rw [hidx] at hg
    refine ⟨_, h2, ty_l em2, _, h4, _, h6, dl, _, nk x, _, rfl, ed2, Ts.keep k12 _ _ hb', ⟨b, rfl⟩, nk_depth x, hg, ml, _, _, rfl, rfl, em2, lt_line (by omega), ?_⟩
    have k3 : TK H2 (upd H2 ml (.lst (ys ++ [V.int ((ns.length : Nat) : Int)]))) := TK.lst em2 _
    have k13 := TK.trans k12 k3
    refine hk _ (xs ++ [.ref b]) (SameBut.put sb2 (by simp)) k13 upd_same (upd_at en2 (Ne.symm hne)) ?_ (ed2.keep k3 (upd_ne hdm))
    rw [List.map_append]
    exact TsA.append (TsA.keep k13 _ _ tx) (.cons (Ts.keep k13 _ _ hb) .nil)
end K16

set_option Elab.async false
set_option linter.all false
set_option maxRecDepth 100000
set_option maxHeartbeats 4000000
/-! numbered: the walk; unshared; shared. -/
namespace K16
open PySem PySem.Spec PyProof.Rows L2
open Classical
variable {P : Program} {w : World} {K : PySem.W.Frag} {mg : Str → Option Value} {base : Heap}
theorem dec_join_go : decide (V.str "join" = V.str "go") = false := by decide +kernel
structure NW (P : Program) (w : World) (v : V) (t : Tr) (H0 : Hp) (n : Nat) (σ : L2.St) (H : Hp) (tl ml nl dl : Addr) (vs : List V) (ts : List TkN) (made : List Nat) (ns : List Nd) (xs : List V) (x5 x6 x7 x8 : Option V) : Prop where
  sl : σ = [some v, some (.ref tl), some (.ref ml), some (.ref nl), some (.ref dl), x5, x6, x7, x8]
  same : Same H0 H
  fresh : ∀ a ∈ [tl, ml, nl, dl], H0 a = none
  tm : tl ≠ ml
  tn : tl ≠ nl
  mn : ml ≠ nl
  tt : H tl = some (.lst vs.reverse)
  mm : H ml = some (.lst (made.reverse.map fun (i : Nat) => V.int (i : Int)))
  nn : H nl = some (.lst xs)
  dd : NDAt P w H dl (kvN ns)
  tx : TsA H xs (ns.map nD)
  pt : Paired (TkNAt H) vs ts
  run : (runN ts made ns).2 = form t
  fit : fitN ts made.length
  ms : made.length + msN ts ≤ 2 * nd t
  ms2 : ns.length + msN ts ≤ 2 * nd t
  me : n = msN ts
abbrev sNu : Stmt := top 12
abbrev NNu : List Str := ["tree", "tasks", "made", "nodes", "met", "word", "node", "numbers", "branch"]
theorem scNu : FnScope NNu ["tree"] (defScope sNu) := ⟨rfl, rfl, rfl, by decide +kernel, rfl, by decide +kernel, by decide +kernel⟩
def spNu : Sp := fun vs H Q _ => ∃ (v : V) (t : Tr), vs = [v] ∧ TrAt H v t ∧ nd t ≤ 2000 ∧ ∀ r ys H', Same H H' → H' r = some (.tup ys) → TsA H' ys ((form t).map nD) → Q (.ref r) H'
theorem ok_nu (D : Def K mg "numbered" sNu ["tree"]) (Z : Bi mg) : Cal P w K mg base 1 "numbered" spNu := by
  refine D.ok scNu (fun vs H Q E h => ?_) (fun f cdv A outer s H vs Q E hr h => ?_)
  · obtain ⟨v, t, rfl, _⟩ := h
    rfl
  obtain ⟨v, t, rfl, ht, hn, kq⟩ := h
  have hu := hu_of hr
  have hu64 := hr.units
  refine ⟨_, (pss_cons (ps_asg (pe_tup (pa_cons (pe_lst (pa_cons (pe_tup (pa_cons pe_str (pa_cons (pv 0) pa_nil))) pa_nil)) (pa_cons (pe_lst pa_nil) (pa_cons (pe_lst pa_nil) (pa_cons pe_nnew pa_nil))))) (pg_tup rfl (pgs_cons (pg_name (i := 1) scNu.nd rfl (Or.inl rfl)) (pgs_cons (pg_name (i := 2) scNu.nd rfl (Or.inr rfl)) (pgs_cons (pg_name (i := 3) scNu.nd rfl (Or.inl rfl)) (pgs_cons (pg_name (i := 4) scNu.nd rfl (Or.inl rfl)) pgs_nil))))))
    (pss_cons (ps_while PassesOwn.never (pt_truth (pv 1) (by intro _; rfl)) (pss_cons (ps_asg (pe_bm0 PySem.F.plainAttrs_list PySem.F.slot_list_pop PySem.F.type_list_pop mt_pop (pv 1)) (pg_tup rfl (pgs_cons (pg_name (i := 5) scNu.nd rfl (Or.inl rfl)) (pgs_cons (pg_name (i := 6) scNu.nd rfl (Or.inl rfl)) pgs_nil))))
    (pss_cons (ps_if (PW.pt (pw_and (pt_cmpR op_eq (pv 5) pe_str (nomark _)) (pw_and1 (pt_cmpR op_eq (pe_it (pv 6) pe_int) pe_str (nomark _))))) (pss_cons (ps_expr (pe_bm PySem.F.plainAttrs_list PySem.F.slot_list_append PySem.F.type_list_append mt_append (pv 1) (pa_cons (pe_tup (pa_cons pe_str (pa_cons (pv 6) pa_nil))) pa_nil)))
    (pss_cons (ps_expr (pe_bm PySem.F.plainAttrs_list PySem.F.slot_list_extend PySem.F.type_list_extend mt_extend (pv 1) (pa_cons (pe_lc (own := [("branch", 8)]) (g := gName 8) (tt := tYes) rfl scNu.nd (pi_tup (pe_revT (pe_it (pv 6) pe_int))) (blkOk_by (own := [("branch", 8)]) (N := NNu) (sc := defScope sNu) (by decide +kernel)) (fun _ _ _ _ _ => (pg_name (i := 8) scNu.nd rfl (Or.inl rfl))) (fun _ _ _ _ _ => by exact pts_nil) (fun _ _ _ _ _ => by exact (pe_tup (pa_cons pe_str (pa_cons (pv 8) pa_nil))))) pa_nil)))
    (pss_one ps_continue))) pss_nil)
    (pss_cons (ps_if (pt_cmpR op_eq (pv 5) pe_str (nomark _)) (pss_cons (ps_setLc (i := 7) (own := [("branch", 8)]) (g := gName 8) (tt := tYes) rfl scNu.nd rfl rfl (sw_true rfl rfl rfl (by decide +kernel)) (pi_tup (pe_it (pv 6) pe_int)) (blkOk_by (own := [("branch", 8)]) (N := NNu) (sc := defScope sNu) (by decide +kernel)) (fun _ _ _ _ _ => (pg_name (i := 8) scNu.nd rfl (Or.inl rfl))) (fun _ _ _ _ _ => by exact pts_nil) (fun _ _ _ _ _ => by exact (pe_bm0k K rfl PySem.F.plainAttrs_list PySem.F.slot_list_pop PySem.F.type_list_pop mt_pop (pv 2))))
    (pss_one (ps_set (i := 6) scNu.nd rfl (Or.inl rfl) (pe_tup (pa_cons pe_str (pa_cons (pe_it (pv 6) pe_int) (pa_cons (pe_callTy call_tuple_of (by rfl) Z.tuple (by decide +kernel) (pa_cons (pe_revL (pv 7)) pa_nil)) pa_nil))))))) pss_nil)
    (pss_cons (ps_if (pt_cmp (pc_nnot hu64 (pv 6) (pv 4)) rfl) (pss_cons (ps_nput hu64 (pv 4) (pv 6) (pe_callB call_len_seq (by rfl) Z.len PySem.boot_len (pa_cons (pv 3) pa_nil)) rfl)
    (pss_one (ps_expr (pe_bm PySem.F.plainAttrs_list PySem.F.slot_list_append PySem.F.type_list_append mt_append (pv 3) (pa_cons (pv 6) pa_nil))))) pss_nil)
    (pss_one (ps_expr (pe_bm PySem.F.plainAttrs_list PySem.F.slot_list_append PySem.F.type_list_append mt_append (pv 2) (pa_cons (pe_nget hu64 (pv 4) (pv 6) (fun _ _ => rfl)) pa_nil)))))))))
    (pss_one (ps_ret (pe_callTy call_tuple_of (by rfl) Z.tuple (by decide +kernel) (pa_cons (pv 3) pa_nil)))))), ?_⟩
  refine ⟨_, rfl, (by show 2 ≤ sizeLine; decide), fun p1 h1 => ⟨(by show 1 ≤ sizeLine; decide), fun p2 h2 => ⟨Nat.zero_le _, fun p3 h3 => ⟨Nat.zero_le _, fun p4 h4 => fun p5 H5' h5 d5 ed => ⟨(by show 4 ≤ sizeLine; decide), fun p6 h6 => ⟨p6, _, rfl, SqT.of upd_same, rfl, _, _, rfl, _, _, rfl, _, _, rfl, _, _, rfl, rfl, ?_⟩⟩⟩⟩⟩⟩
  refine ⟨fun n σ H1 => ∃ tl ml nl dl vs ts made ns xs x5 x6 x7 x8, NW P w v t H n σ H1 tl ml nl dl vs ts made ns xs x5 x6 x7 x8, ?_, ?_⟩
  · generalize d1 : upd H p1 _ = H1 at *
    obtain ⟨s1, e1⟩ := Same.eqn h1 d1
    generalize d2 : upd H1 p2 _ = H2 at *
    obtain ⟨s2, e2⟩ := Same.eqn h2 d2
    generalize d3 : upd H2 p3 _ = H3 at *
    obtain ⟨s3, e3⟩ := Same.eqn h3 d3
    generalize d4 : upd H3 p4 _ = H4 at *
    obtain ⟨s4, e4⟩ := Same.eqn h4 d4
    obtain ⟨s5, e5⟩ := Same.eqn h5 d5.symm
    generalize d6 : upd H5' p6 _ = H6 at *
    obtain ⟨s6, e6⟩ := Same.eqn h6 d6
    have s13 := Same.trans s1 (Same.trans s2 s3)
    have s14 := Same.trans s13 s4
    have s16 := Same.trans s14 (Same.trans s5 s6)
    have s46 := Same.trans s4 (Same.trans s5 s6)
    refine ⟨_, p2, p3, p4, p5, [.ref p1], [.go t], [], [], [], _, _, _, _, ⟨rfl, s16, ?_, ne_som e2 h3, ne_som (s3 _ _ e2) h4, ne_som e3 h4, s46 _ _ (s3 _ _ e2), s46 _ _ e3, s6 _ _ (s5 _ _ e4), ?_, .nil, .cons ⟨p1, v, rfl, s46 _ _ (s3 _ _ (s2 _ _ e1)), Ts.keep (TK.of s16) _ _ ht⟩ .nil, rfl, trivial, ?_, ?_, rfl⟩⟩
    · intro a ha
      rcases List.mem_cons.mp ha with rfl | ha
      · exact Same.gone s1 h2
      rcases List.mem_cons.mp ha with rfl | ha
      · exact Same.gone (Same.trans s1 s2) h3
      rcases List.mem_cons.mp ha with rfl | ha
      · exact Same.gone s13 h4
      · rw [List.mem_singleton.mp ha]; exact Same.gone s14 h5
    · refine ed.keep (TK.of s6) ?_
      rw [← d6, upd_ne (ne_som e5 h6)]
    · rw [msN, msN]; simp
    · rw [msN, msN]; simp
  rintro n σ H1 ⟨tl, ml, nl, dl, vs, ts, made, ns, xs, x5, x6, x7, x8, g⟩
  have hsl := g.sl
  subst hsl
  have hms := g.ms
  have hms2 := g.ms2
  have hlen : vs.length = ts.length := Paired.len g.pt
  have hvl : vs.length ≤ 4000 := by
    have := msN_len ts
    omega
  have hdn : ∀ {a : Addr} {ys : List V}, H1 a = some (.lst ys) → dl ≠ a := fun e => by
    obtain ⟨raw, e', _⟩ := g.dd
    exact ne_of e' e (fun z => nomatch z)
  have hnoL : NoTup H1 dl := by
    obtain ⟨raw, e', _⟩ := g.dd
    exact fun ys e => by rw [e'] at e; cases e
  have hno : ∀ a ∈ [tl, ml, nl, dl], NoTup H1 a := fun a ha => by
    rcases List.mem_cons.mp ha with rfl | ha
    · exact noTup_l g.tt
    rcases List.mem_cons.mp ha with rfl | ha
    · exact noTup_l g.mm
    rcases List.mem_cons.mp ha with rfl | ha
    · exact noTup_l g.nn
    · rw [List.mem_singleton.mp ha]; exact hnoL
  cases ts with
  | nil =>
    have : vs = [] := List.length_eq_zero_iff.mp hlen
    subst this
    refine ⟨_, rfl, _, tru_l g.tt, itF rfl ⟨_, rfl, nl, xs, rfl, .inl ⟨SqL.of g.nn, fun r hr => ?_⟩⟩⟩
    have hf : ns = form t := g.run
    refine kq r xs _ (Same.trans g.same (Same.new hr _)) upd_same ?_
    rw [← hf]
    exact TsA.keep (TK.new hr _) _ _ g.tx
  | cons x ts =>
    obtain ⟨v1, vs', rfl⟩ : ∃ y ys', vs = y :: ys' := by cases vs with
      | nil => simp at hlen
      | cons y ys' => exact ⟨_, _, rfl⟩
    have hpt := g.pt
    cases hpt with
    | cons hx hpt =>
    refine ⟨_, rfl, _, tru_l g.tt, itT (by rw [rev_empty]; rfl) ⟨_, fun _ _ h => h, ?_⟩⟩
    refine ⟨_, rfl, ty_l g.tt, _, _, v1, rfl, rfl, g.tt, pop_get _ _, ?_⟩
    rw [pop_rest]
    have k1 : TK H1 (upd H1 tl (.lst vs'.reverse)) := TK.lst g.tt _
    have em1 : upd H1 tl (.lst vs'.reverse) ml = some _ := upd_at g.mm (Ne.symm g.tm)
    have en1 : upd H1 tl (.lst vs'.reverse) nl = some _ := upd_at g.nn (Ne.symm g.tn)
    have et1 : upd H1 tl (.lst vs'.reverse) tl = some _ := upd_same
    have ed1 := g.dd.keep k1 (upd_ne (hdn g.tt))
    have sb1 : SameBut [tl, ml, nl, dl] H1 (upd H1 tl (.lst vs'.reverse)) := SameBut.put (SameBut.refl _ _) (by simp)
    generalize upd H1 tl (.lst vs'.reverse) = Hc at *
    have hx1 := keeps_tkN _ _ _ _ k1 hx
    have hpt1 := Paired.keep (F := TkNAt) keeps_tkN k1 hpt
    have tx1 := TsA.keep k1 _ _ g.tx
    have hml : made.length ≤ 4000 := by omega
    have hnl : ns.length ≤ 4000 := by omega
    have hfin : ∀ {y : Nd} {H5 Hm : Hp} {xs5 : List V} {made5 : List Nat} {z5 z6 z7 z8 : Option V}, SameBut [tl, ml, nl, dl] H1 Hm → TK Hc Hm → Hm tl = some (.lst vs'.reverse) → SameBut [ml, nl, dl] Hm H5 → TK Hm H5 →
        H5 ml = some (.lst (made5.reverse.map (fun (i : Nat) => V.int (i : Int)) ++ [V.int ((ins y ns).1 : Nat)])) → H5 nl = some (.lst xs5) → TsA H5 xs5 ((ins y ns).2.map nD) → NDAt P w H5 dl (kvN (ins y ns).2) →
        runN (x :: ts) made ns = runN ts ((ins y ns).1 :: made5) (ins y ns).2 → fitN ts (made5.length + 1) → made5.length ≤ made.length → msN ts < msN (x :: ts) →
        ∃ m', m' < n ∧ ∃ tl' ml' nl' dl' vs ts made ns xs x5 x6 x7 x8, NW P w v t H m' [some v, some (.ref tl), some (.ref ml), some (.ref nl), some (.ref dl), z5, z6, z7, z8] H5 tl' ml' nl' dl' vs ts made ns xs x5 x6 x7 x8 := by
      intro y H5 Hm xs5 made5 z5 z6 z7 z8 sb2 k2 et2 sb3 k3 em5 en5 tx5 ed5 hrun hfit hmade hmm
      have sb5 : SameBut [tl, ml, nl, dl] H1 H5 := SameBut.trans sb2 (fun b o hb e => sb3 b o (fun z => hb (List.mem_cons_of_mem _ z)) e)
      refine ⟨msN ts, by rw [g.me]; exact hmm, tl, ml, nl, dl, vs', ts, (ins y ns).1 :: made5, (ins y ns).2, xs5, z5, z6, z7, z8, ⟨rfl, SameBut.same sb5 g.same g.fresh, g.fresh, g.tm, g.tn, g.mn, ?_, ?_, en5, ed5, tx5, Paired.keep (F := TkNAt) keeps_tkN (TK.trans k2 k3) hpt1, ?_, hfit, ?_, ?_, rfl⟩⟩
      · refine sb3 tl _ (fun hz => ?_) et2
        rcases List.mem_cons.mp hz with h | hz
        · exact g.tm h
        rcases List.mem_cons.mp hz with h | hz
        · exact g.tn h
        · exact hdn g.tt (List.mem_singleton.mp hz).symm
      · rw [em5, List.reverse_cons, List.map_append]; rfl
      · rw [← hrun]; exact g.run
      · rw [List.length_cons]; omega
      · have := ins_len y ns
        omega
    have sbH : SameBut [tl, ml, nl, dl] H1 Hc := sb1
    cases x with
    | go u =>
      obtain ⟨q, xv, rfl, eq, hu1⟩ := hx1
      refine ⟨q, _, rfl, SqT.of eq, rfl, _, _, rfl, _, _, rfl, rfl, ?_⟩
      refine ⟨_, rfl, rfl, _, rfl, itT (dec_same _) ?_⟩
      cases u with
      | fin z =>
        obtain ⟨p5, x', rfl, e5, hx5⟩ := hu1.fin
        refine ⟨_, rfl, p5, _, _, _, rfl, rfl, SqT.of e5, rfl, rfl, _, rfl, itF dec_end_ask ?_⟩
        refine ⟨_, rfl, rfl, _, rfl, itF dec_go_join ?_⟩
        refine tail_ok (x := .fin z) rfl rfl rfl rfl em1 en1 ed1 tx1 hu1 g.mn (by rw [List.length_map, List.length_reverse]; omega) (by omega) fun H5 xs5 sb5 k5 em5 en5 tx5 ed5 => ?_
        refine hfin sb1 (TK.refl _) et1 sb5 k5 em5 en5 tx5 ed5 rfl g.fit (Nat.le_refl _) ?_
        rw [msN]
        have := nd_pos (.fin z)
        omega
      | ask p bs =>
        obtain ⟨p5, r5, b5, zs, rfl, e5, er5, eb5, tb⟩ := hu1.ask
        have hzl : zs.length = bs.length := by rw [tb.length, List.length_map]
        have hbn := nds_len bs
        have hmsx : msN (.go (.ask p bs) :: ts) = 2 * (1 + nds bs) + msN ts := rfl
        refine ⟨_, rfl, p5, _, _, _, rfl, rfl, SqT.of e5, rfl, rfl, _, rfl, itT (dec_same _) ?_⟩
        refine ⟨_, rfl, ty_l et1, _, rfl, (by show 2 ≤ sizeLine; decide), fun a1 ha1 => ?_⟩
        generalize d1 : upd Hc a1 _ = H3 at *
        obtain ⟨s3, e3⟩ := Same.eqn ha1 d1
        have et3 := s3 _ _ et1
        refine ⟨tl, _, _, rfl, rfl, et3, lt_line (by rw [List.length_reverse]; rw [List.length_cons] at hvl; omega), ?_⟩
        have k34 : TK H3 (upd H3 tl (.lst (vs'.reverse ++ [.ref a1]))) := TK.lst et3 _
        have et4 : upd H3 tl (.lst (vs'.reverse ++ [.ref a1])) tl = some _ := upd_same
        have em4 : upd H3 tl (.lst (vs'.reverse ++ [.ref a1])) ml = some _ := upd_at (s3 _ _ em1) (Ne.symm g.tm)
        have en4 : upd H3 tl (.lst (vs'.reverse ++ [.ref a1])) nl = some _ := upd_at (s3 _ _ en1) (Ne.symm g.tn)
        have hdtl : dl ≠ tl := hdn g.tt
        have ed3 : NDAt P w H3 dl (kvN ns) := ed1.keep (TK.of s3) (by
          obtain ⟨raw, e', _⟩ := ed1
          rw [s3 _ _ e', e'])
        have ed4 := ed3.keep k34 (upd_ne hdtl)
        have sb4 : SameBut [tl, ml, nl, dl] H1 (upd H3 tl (.lst (vs'.reverse ++ [.ref a1]))) := SameBut.put (SameBut.trans sb1 (SameBut.of s3)) (by simp)
        generalize upd H3 tl (.lst (vs'.reverse ++ [.ref a1])) = H4 at *
        have k14 := TK.trans (TK.of s3) k34
        refine ⟨_, rfl, ty_l et4, _, rfl, p5, _, _, _, rfl, rfl, SqT.of (k14 _ _ e5), rfl, b5, zs, rfl, k14 _ _ eb5, fun a2 ha2 => ?_⟩
        generalize d2 : upd H4 a2 _ = H5 at *
        obtain ⟨s5, e6⟩ := Same.eqn ha2 d2
        refine ⟨a2, rfl, ⟨_, SqT.of e6⟩, fun D0 hD0 => ?_⟩
        refine lc_tupM (F := GoAt) keeps_go.d bs.reverse (by rw [List.length_reverse, List.length_reverse, hzl]) (by rw [List.length_reverse, hzl]; omega) hD0 e6 (fun i x H6 s hx hs6 s6 Q6 hq => ⟨rfl, ?_⟩) (fun H6 acc s6 eD hacc => ?_)
        · refine ⟨_, rfl, (by show 2 ≤ sizeLine; decide), fun a3 ha3 => hq _ _ (Same.new ha3 _) ⟨a3, x, rfl, upd_same, ?_⟩⟩
          obtain ⟨s', h1, h2⟩ := Paired.nth' (Paired.rev (of_tsA tb)) hx
          rw [hs6] at h1
          cases h1
          exact Ts.keep (TK.trans k14 (TK.trans (TK.of s5) (TK.trans (TK.of s6) (TK.new ha3 _)))) _ _ h2
        · have s7 := Same.trans s5 s6
          have hal : acc.length = bs.length := by rw [Paired.len hacc, List.length_reverse]
          refine ⟨tl, D0, _, _, rfl, rfl, s7 _ _ et4, eD, le_line (by rw [List.length_append, List.length_reverse]; rw [List.length_cons] at hvl; simp; omega), ?_⟩
          have k7 : TK H6 (upd H6 tl (.lst (vs'.reverse ++ [.ref a1] ++ acc))) := TK.lst (s7 _ _ et4) _
          have k47 := TK.trans (TK.of s7) k7
          have k17 := TK.trans k14 k47
          have sb7 : SameBut [tl, ml, nl, dl] H1 (upd H6 tl (.lst (vs'.reverse ++ [.ref a1] ++ acc))) := SameBut.put (SameBut.trans sb4 (SameBut.of s7)) (by simp)
          have ed6 : NDAt P w H6 dl (kvN ns) := ed4.keep (TK.of s7) (by
            obtain ⟨raw, e', _⟩ := ed4
            rw [s7 _ _ e', e'])
          refine ⟨msN (bs.map TkN.go ++ (.join p bs :: ts)), ?_, tl, ml, nl, dl, acc.reverse ++ (.ref a1 :: vs'), bs.map TkN.go ++ (.join p bs :: ts), made, ns, xs, _, _, _, _, ⟨rfl, SameBut.same sb7 g.same g.fresh, g.fresh, g.tm, g.tn, g.mn, ?_, upd_at (s7 _ _ em4) (Ne.symm g.tm), upd_at (s7 _ _ en4) (Ne.symm g.tn), ed6.keep k7 (upd_ne hdtl), TsA.keep k17 _ _ tx1, Paired.append (goN_at ?_) (.cons ⟨a1, .ref p5, rfl, k47 _ _ (k34 _ _ e3), Ts.keep k17 _ _ hu1⟩ (Paired.keep (F := TkNAt) keeps_tkN k17 hpt1)), ?_, ?_, ?_, ?_, rfl⟩⟩
          · rw [g.me, goN_ms, hmsx, msN]; omega
          · rw [upd_same]; simp
          · have := Paired.rev (Paired.keep (F := GoAt) keeps_go k7 hacc)
            rw [List.reverse_reverse] at this
            exact this
          · rw [runN_ask]; exact g.run
          · rw [goN_fit, fitN]
            refine ⟨by omega, ?_⟩
            have : fitN ts (made.length + 1) := g.fit
            rw [show made.length + bs.length - bs.length + 1 = made.length + 1 by omega]
            exact this
          · rw [goN_ms, msN]; omega
          · rw [goN_ms, msN]; omega
    | join p bs =>
      obtain ⟨q, xv, rfl, eq, hu1⟩ := hx1
      have hfit : bs.length ≤ made.length ∧ fitN ts (made.length - bs.length + 1) := g.fit
      have hmsx : msN (.join p bs :: ts) = 1 + msN ts := rfl
      refine ⟨q, _, rfl, SqT.of eq, rfl, _, _, rfl, _, _, rfl, rfl, ?_⟩
      refine ⟨_, rfl, rfl, _, rfl, itF dec_join_go (itF rfl ?_)⟩
      obtain ⟨p5, r5, b5, zs, rfl, e5, er5, eb5, tb⟩ := hu1.ask
      have hzl : zs.length = bs.length := by rw [tb.length, List.length_map]
      refine ⟨_, rfl, rfl, _, rfl, itT (dec_same _) ?_⟩
      refine ⟨_, rfl, p5, _, _, _, rfl, rfl, SqT.of e5, rfl, b5, rfl, ⟨_, SqT.of eb5⟩, fun D0 hD0 => ?_⟩
      refine lc_tup (xs := zs) (fun i H' => i ≤ bs.length ∧ SameBut [ml] Hc H' ∧ H' ml = some (.lst ((made.drop i).reverse.map fun (k : Nat) => V.int (k : Int))) ∧ H' D0 = some (.lst ((made.take i).map fun (k : Nat) => V.int (k : Int)))) ⟨Nat.zero_le _, SameBut.putN (SameBut.refl _ _) hD0, upd_at em1 (ne_som em1 hD0), upd_same⟩ (fun i H' hi hw => SqT.of (hw.2.1 _ _ (fun z => ne_of eb5 em1 (fun z => nomatch z) (List.mem_singleton.mp z)) eb5)) (fun i x' H' hxi hw => ?_) (fun H' hw => ?_)
      · obtain ⟨hle, sb, em, eD⟩ := hw
        have hi := (List.getElem?_eq_some_iff.mp hxi).1
        obtain ⟨y, rest, hdr⟩ : ∃ y rest, made.drop i = y :: rest := by
          cases h : made.drop i with
          | nil =>
            have := congrArg List.length h
            rw [List.length_drop, List.length_nil] at this
            omega
          | cons y rest => exact ⟨_, _, rfl⟩
        have hyi : made[i]? = some y := by
          have := List.getElem?_drop (xs := made) (i := i) (j := 0)
          rw [hdr] at this
          simpa using this.symm
        rw [hdr, List.map_reverse, List.map_cons] at em
        refine ⟨rfl, itT (B := True) rfl ⟨_, rfl, ty_l em, ml, _, .int (y : Int), rfl, rfl, em, pop_get _ _, ?_⟩⟩
        have hne : D0 ≠ ml := (ne_som em1 hD0).symm
        refine ⟨_, upd_at eD hne, lt_line (by rw [List.length_map, List.length_take]; omega), by omega, ?_, ?_, ?_⟩
        · exact SameBut.putN (SameBut.put sb (by simp)) hD0
        · rw [pop_rest]
          refine upd_at ?_ hne.symm
          rw [upd_same, ← List.drop_drop, hdr, List.map_reverse]
          rfl
        · rw [upd_same, take_one hyi, List.map_append]
          rfl
      · obtain ⟨_, sb, em, eD⟩ := hw
        rw [hzl] at em eD
        have sb2 : SameBut [tl, ml, nl, dl] H1 H' := SameBut.trans sb1 (fun b o hb e => sb b o (fun z => hb (by rw [List.mem_singleton.mp z]; simp)) e)
        have k2 : TK Hc H' := SameBut.tk sb (fun a ha => by rw [List.mem_singleton.mp ha]; exact noTup_l em1)
        refine ⟨_, rfl, p5, _, _, _, rfl, rfl, SqT.of (k2 _ _ e5), rfl, _, rfl, D0, _, rfl, SqL.of eD, fun a1 ha1 => ?_⟩
        refine ⟨a1, _, rfl, .inl ⟨SqL.of upd_same, fun a2 ha2 => ⟨(by show 3 ≤ sizeLine; decide), fun a3 ha3 => ?_⟩⟩⟩
        generalize d1 : upd H' a1 _ = H2 at *
        obtain ⟨s1, e1⟩ := Same.eqn ha1 d1
        generalize d2 : upd H2 a2 _ = H3 at *
        obtain ⟨s2, e2⟩ := Same.eqn ha2 d2
        generalize d3 : upd H3 a3 _ = H4 at *
        obtain ⟨s3, e3⟩ := Same.eqn ha3 d3
        have s4 := Same.trans s1 (Same.trans s2 s3)
        have k24 := TK.trans k2 (TK.of s4)
        have en4 : H4 nl = some (.lst xs) := s4 _ _ (sb _ _ (fun z => g.mn (List.mem_singleton.mp z).symm) en1)
        have et4 : H4 tl = some (.lst vs'.reverse) := s4 _ _ (sb _ _ (fun z => g.tm (List.mem_singleton.mp z)) et1)
        have ed4 : NDAt P w H4 dl (kvN ns) := ed1.keep k24 (by
          obtain ⟨raw, e', _⟩ := ed1
          rw [s4 _ _ (sb _ _ (fun z => (hdn g.mm) (List.mem_singleton.mp z)) e'), e'])
        have hnew : Ts H4 (.ref a3) (nD (.ask p (made.take bs.length).reverse)) := by
          refine .tup e3 (.cons (.str _) (.cons (PlAt_mk (k24 _ _ er5)) (.cons (.tup (s3 _ _ e2) ?_) .nil)))
          rw [← List.map_reverse]
          have := TsA.ints (H := H4) ((made.take bs.length).reverse.map fun (k : Nat) => (k : Int))
          rw [List.map_map, List.map_map] at this
          exact this
        refine tail_ok (x := .ask p (made.take bs.length).reverse) rfl rfl rfl rfl (s4 _ _ em) en4 ed4 (TsA.keep k24 _ _ tx1) hnew g.mn (by rw [List.length_map, List.length_reverse, List.length_drop]; omega) (by omega) fun H5 xs5 sb5 k5 em5 en5 tx5 ed5 => ?_
        refine hfin (made5 := made.drop bs.length) (SameBut.trans sb2 (SameBut.of s4)) k24 et4 sb5 k5 em5 en5 tx5 ed5 rfl ?_ ?_ ?_
        · rw [List.length_drop]; exact hfit.2
        · rw [List.length_drop]; omega
        · rw [hmsx]; omega
/-! ### unshared -/
theorem getD_at {α : Type} {l : List α} {i : Nat} {a d : α} (h : l[i]? = some a) : l.getD i d = a := by rw [List.getD_eq_getElem?_getD, h]; rfl
def NdAt (H : Hp) (v : V) (x : Nd) : Prop := Ts H v (nD x)
abbrev sUs : Stmt := top 24
abbrev NUs : List Str := ["nodes", "made", "node", "number"]
theorem scUs : FnScope NUs ["nodes"] (defScope sUs) := ⟨rfl, rfl, rfl, by decide +kernel, rfl, by decide +kernel, by decide +kernel⟩
def spUs : Sp := fun vs H Q _ => ∃ (a : Addr) (ys : List V) (ns : List Nd) (t : Tr), vs = [.ref a] ∧ H a = some (.tup ys) ∧ TsA H ys (ns.map nD) ∧ (∀ (j : Nat) (p : Pl) (ks : List Nat), ns[j]? = some (.ask p ks) → (∀ k ∈ ks, k < j) ∧ ks.length ≤ 2000) ∧ ns.length ≤ 5000 ∧ (∃ ts, dec ns = ts ++ [t]) ∧
  ∀ r H', Same H H' → TrAt H' r t → Q r H'
theorem ok_us (D : Def K mg "unshared" sUs ["nodes"]) (Z : Bi mg) : Cal P w K mg base 1 "unshared" spUs := by
  refine D.ok scUs (fun vs H Q E h => ?_) (fun f cdv A outer s H vs Q E hr h => ?_)
  · obtain ⟨a, ys, ns, t, rfl, _⟩ := h
    rfl
  obtain ⟨a, ys, ns, t, rfl, ea, ty, hbel, hnl, hlast, kq⟩ := h
  have hu64 := hr.units
  refine ⟨_, (pss_cons (ps_set (i := 1) scUs.nd rfl (Or.inr rfl) (pe_lst pa_nil))
    (pss_cons (ps_for PassesOwn.never rfl (pi_tup (pv 0)) (pg_name (i := 2) scUs.nd rfl (Or.inl rfl)) (pss_one (ps_expr (pe_bm PySem.F.plainAttrs_list PySem.F.slot_list_append PySem.F.type_list_append mt_append (pv 1) (pa_cons (pe_ifExp (pt_cmpR op_eq (pe_it (pv 2) pe_int) pe_str (nomark _)) (pv 2) (pe_tup (pa_cons pe_str (pa_cons (pe_it (pv 2) pe_int) (pa_cons (pe_callTy call_tuple_of (by rfl) Z.tuple (by decide +kernel) (pa_cons (pe_lc (own := [("number", 3)]) (g := gName 3) (tt := tYes) rfl scUs.nd (pi_tup (pe_it (pv 2) pe_int)) (blkOk_by (own := [("number", 3)]) (N := NUs) (sc := defScope sUs) (by decide +kernel)) (fun _ _ _ _ _ => (pg_name (i := 3) scUs.nd rfl (Or.inl rfl))) (fun _ _ _ _ _ => by exact pts_nil) (fun _ _ _ _ _ => by exact (pe_ilk K rfl (pv 1) (pv 3)))) pa_nil)) pa_nil))))) pa_nil)))))
    (pss_one (ps_ret (pe_il (pv 1) (pe_un un_neg pe_int)))))), ?_⟩
  refine ⟨Nat.zero_le _, fun b hb => ?_⟩
  generalize d1 : upd H b _ = H1 at *
  obtain ⟨s1, e1⟩ := Same.eqn hb d1
  refine ⟨_, rfl, a, rfl, ⟨_, SqT.of (s1 _ _ ea)⟩, ?_⟩
  have hyl : ys.length = ns.length := by rw [ty.length, List.length_map]
  refine for_tup (xs := ys) (fun i σ H2 => ∃ ms x2 x3, σ = [some (.ref a), some (.ref b), x2, x3] ∧ Same H H2 ∧ H2 b = some (.lst ms) ∧ Paired (TrAt H2) ms (dec (ns.take i))) ⟨[], _, _, rfl, s1, e1, by rw [List.take_zero, dec_nil]; exact .nil⟩ (fun i σ H2 hi ⟨ms, x2, x3, hσ, s2, e2, pt⟩ => SqT.of (s2 _ _ ea)) (fun i x σ H2 hx ⟨ms, x2, x3, hσ, s2, e2, pt⟩ => ?_) (fun σ H2 ⟨ms, x2, x3, hσ, s2, e2, pt⟩ => ?_)
  · subst hσ
    obtain ⟨y, hy, hxy⟩ := Paired.nth' (Paired.unmapR (f := nD) ty.paired) hx
    have hxy2 : Ts H2 x (nD y) := Ts.keep (TK.of s2) _ _ hxy
    have hil := (List.getElem?_eq_some_iff.mp hy).1
    have htk : ns.take (i + 1) = ns.take i ++ [y] := take_one hy
    have hml : ms.length ≤ 5000 := by rw [Paired.len pt, dec_length, List.length_take]; omega
    refine ⟨_, rfl, ty_l e2, ?_⟩
    cases y with
    | fin z =>
      have hfin : TrAt H2 x (.fin z) := hxy2
      obtain ⟨p, x', rfl, e, hx'⟩ := hfin.fin
      refine ⟨_, rfl, p, _, _, _, rfl, rfl, SqT.of e, rfl, rfl, _, rfl, itT (dec_same _) ⟨_, rfl, ?_⟩⟩
      refine ⟨b, _, _, rfl, rfl, e2, lt_line (by omega), ?_⟩
      have k3 : TK H2 (upd H2 b (.lst (ms ++ [.ref p]))) := TK.lst e2 _
      refine ⟨_, _, _, rfl, Same.lst s2 hb, upd_same, ?_⟩
      rw [htk, dec_snoc]
      exact Paired.snoc (Paired.keep (F := TrAt) keeps_tr k3 pt) (Ts.keep k3 _ _ hfin)
    | ask p ks =>
      obtain ⟨q, xs, rfl, e, t0⟩ := hxy2.tupE
      obtain ⟨z1, z2, z3, rfl, t1, t2, t3⟩ := t0.three
      obtain ⟨r, rfl, er⟩ := PlAt_tup t2
      obtain ⟨kb, zs, rfl, ek, tk⟩ := t3.tupE
      rw [t1.strE] at e
      obtain ⟨hb1, hb2⟩ := hbel i p ks hy
      have hzl : zs.length = ks.length := by rw [tk.length, List.length_map]
      refine ⟨_, rfl, q, _, _, _, rfl, rfl, SqT.of e, rfl, rfl, _, rfl, itF dec_ask_end ?_⟩
      refine ⟨_, rfl, q, _, _, _, rfl, rfl, SqT.of e, rfl, _, rfl, q, _, _, _, rfl, rfl, SqT.of e, rfl, kb, rfl, ⟨_, SqT.of ek⟩, fun D0 hD0 => ?_⟩
      refine lc_tupM (F := TrAt) keeps_tr.d (ks.map fun k => (dec (ns.take i)).getD k default) (by rw [List.length_map, hzl]) (by omega) hD0 ek (fun j x' H5 z hx' hz s5 Q5 hq5 => ⟨rfl, ?_⟩) (fun H5 acc s5 eD hacc => ?_)
      · obtain ⟨n', hn', hxn⟩ := Paired.nth' (Paired.unmapR (f := fun (k : Nat) => PyData.int (k : Int)) tk.paired) hx'
        rw [List.getElem?_map, hn'] at hz
        have hz : (dec (ns.take i)).getD n' default = z := Option.some.inj hz
        have hlt := hb1 n' (List.mem_of_getElem? hn')
        have hdl : (dec (ns.take i)).length = i := by rw [dec_length, List.length_take]; omega
        have hg : (dec (ns.take i))[n']? = some (dec (ns.take i))[n'] := List.getElem?_eq_getElem (by omega)
        rw [getD_at hg] at hz
        obtain ⟨u, hu1, hu2⟩ := Paired.nth pt hg
        rw [hxn.intE]
        refine ⟨_, rfl, _, rfl, b, _, _, _, rfl, rfl, SqL.of (s5 _ _ e2), atI_nat hu1, hq5 _ _ (Same.refl _) ?_⟩
        rw [← hz]
        exact Ts.keep (TK.of s5) _ _ hu2
      · refine ⟨D0, _, rfl, .inl ⟨SqL.of eD, fun a6 ha6 => ⟨(by show 3 ≤ sizeLine; decide), fun a7 ha7 => ?_⟩⟩⟩
        generalize d6 : upd H5 a6 _ = H6 at *
        obtain ⟨s6, e6⟩ := Same.eqn ha6 d6
        generalize d7 : upd H6 a7 _ = H7 at *
        obtain ⟨s7, e7⟩ := Same.eqn ha7 d7
        have s57 := Same.trans s5 (Same.trans s6 s7)
        refine ⟨b, _, _, rfl, rfl, s57 _ _ e2, lt_line (by omega), ?_⟩
        have k8 : TK H7 (upd H7 b (.lst (ms ++ [.ref a7]))) := TK.lst (s57 _ _ e2) _
        have k28 := TK.trans (TK.of s57) k8
        refine ⟨_, _, _, rfl, Same.lst (Same.trans s2 s57) hb, upd_same, ?_⟩
        rw [htk, dec_snoc]
        refine Paired.snoc (Paired.keep (F := TrAt) keeps_tr k28 pt) ?_
        show Ts _ _ _
        rw [dc1, tr_ask]
        refine .tup (k8 _ _ e7) (.cons (.str _) (.cons (PlAt_mk (k28 _ _ er)) (.cons (.tup (k8 _ _ (s7 _ _ e6)) (tsA_of (Paired.keep (F := TrAt) keeps_tr (TK.trans (TK.of (Same.trans s6 s7)) k8) hacc))) .nil)))
  · subst hσ
    rw [hyl, List.take_length] at pt
    obtain ⟨ts, hts⟩ := hlast
    rw [hts] at pt
    obtain ⟨vs', v', hvv, hp1, hp2⟩ : ∃ vs' v', ms = vs' ++ [v'] ∧ Paired (TrAt H2) vs' ts ∧ TrAt H2 v' t := by
      have h1 := Paired.rev pt
      rw [List.reverse_append] at h1
      generalize hmr : ms.reverse = mr at h1
      cases h1 with
      | @cons a' _ l' _ ha hl =>
        refine ⟨l'.reverse, a', ?_, ?_, ha⟩
        · have := congrArg List.reverse hmr
          rw [List.reverse_reverse] at this
          rw [this, List.reverse_cons]
        · have := Paired.rev hl
          simpa using this
    subst hvv
    refine ⟨_, rfl, 1, rfl, b, _, _, _, rfl, rfl, SqL.of e2, atI_last _ _, kq v' H2 s2 hp2⟩

/-! ### shared -/
abbrev sSh : Stmt := top 23
abbrev NSh : List Str := ["menu", "tree"]
theorem scSh : FnScope NSh ["menu", "tree"] (defScope sSh) := ⟨rfl, rfl, rfl, by decide +kernel, rfl, by decide +kernel, by decide +kernel⟩
def spSh : Sp := fun vs H Q _ => ∃ (x v : V) (t : Tr) (m : Nat → Nat) (L : List Pl), vs = [x, v] ∧ TrAt H v t ∧ Menu m L ∧ Wf m L t ∧ ∀ r ys H', Same H H' → H' r = some (.tup ys) → TsA H' ys ((form (low m L (ev t) zero)).map nD) → Q (.ref r) H'
theorem ok_sh (D : Def K mg "shared" sSh ["menu", "tree"]) (C_numbered : Cal P w K mg base 1 "numbered" spNu) (C_least : Cal P w K mg base 9 "least" spLe) : Cal P w K mg base 10 "shared" spSh := by
  refine D.ok scSh (fun vs H Q E h => ?_) (fun f cdv A outer s H vs Q E hr h => ?_)
  · obtain ⟨x, v, t, m, L, rfl, _⟩ := h
    rfl
  obtain ⟨x, v, t, m, L, rfl, ht, M, hw, kq⟩ := h
  refine ⟨_, (pss_one (ps_ret (pe_cal C_numbered (hr.mono (by omega)) (pa_cons (pe_cal C_least (hr.mono (by omega)) (pa_cons (pv 0) (pa_cons (pv 1) pa_nil))) pa_nil)))), ?_⟩
  refine ⟨_, rfl, _, rfl, x, v, t, m, L, rfl, ht, M, hw, fun r H1 s1 hr1 => ⟨r, _, rfl, hr1, ?_, fun r2 ys H2 s2 e2 t2 => kq r2 ys H2 (Same.trans s1 s2) e2 t2⟩⟩
  have := M.nodes (low_wf (F := ev t) (r := zero) M.nodup M.pos)
  omega
end K16

set_option Elab.async false
set_option linter.all false
set_option maxRecDepth 100000
set_option maxHeartbeats 4000000
/-! ends_of. -/
namespace K16
open PySem PySem.Spec PyProof.Rows L2
open Classical
variable {P : Program} {w : World} {K : PySem.W.Frag} {mg : Str → Option Value} {base : Heap}
/-- a known answer, told -/
def kd (x : Pl × Nat) : PyData := .tuple [pd x.1, .int (x.2 : Int)]
def srt (k : Kn) : Kn := k.mergeSort (PySem.W.dataLe false kd)
def eD (e : Kn × Va) : PyData := .tuple [.tuple ((srt e.1).map kd), vd e.2]
theorem kd_alike (k : Kn) : PySem.W.AllAlike (k.map kd) := by
  intro d hd d' hd'
  obtain ⟨x, _, rfl⟩ := List.mem_map.mp hd
  obtain ⟨y, _, rfl⟩ := List.mem_map.mp hd'
  rfl
theorem kd_sortable (k : Kn) : PySem.W.Sortable (k.map kd) := .inl fun d hd => by
  obtain ⟨x, _, rfl⟩ := List.mem_map.mp hd
  exact ⟨_, _, rfl⟩
theorem kd_depth (x : Pl × Nat) : (kd x).depth ≤ 50 := by
  have h : (kd x).depth = 2 := rfl
  omega
abbrev Ek := Tr × Kn
def EkAt (H : Hp) (v : V) (x : Ek) : Prop := ∃ q y z, v = V.ref q ∧ H q = some (.tup [y, .ref z]) ∧ TrAt H y x.1 ∧ Ts H (.ref z) (.tuple (x.2.map kd))
theorem keeps_ek : Keeps EkAt := fun _ _ _ _ k ⟨q, y, z, h1, h2, h3, h4⟩ => ⟨q, y, z, h1, k _ _ h2, Ts.keep k _ _ h3, Ts.keep k _ _ h4⟩
def kidsE (bs : List Tr) (k : Kn) (p : Pl) (d : Nat) : List Ek := (bs.zipIdx d).map fun x => (x.1, k ++ [(p, x.2)])
theorem kidsE_len (bs : List Tr) (k : Kn) (p : Pl) (d : Nat) : (kidsE bs k p d).length = bs.length := by rw [kidsE, List.length_map, List.length_zipIdx]
theorem kidsE_en (p : Pl) (k : Kn) : ∀ (bs : List Tr) (d : Nat), (kidsE bs k p d).flatMap (fun x => en x.1 x.2) = ens p bs d k
  | [], d => rfl
  | b :: bs, d => by
    rw [kidsE, List.zipIdx_cons, List.map_cons, List.flatMap_cons, ens]
    congr 1
    exact kidsE_en p k bs (d + 1)
theorem kidsE_at {bs : List Tr} {k : Kn} {p : Pl} {i : Nat} {x : Ek} (h : (kidsE bs k p 0)[i]? = some x) : ∃ b, bs[i]? = some b ∧ x = (b, k ++ [(p, i)]) := by
  rw [kidsE, List.getElem?_map, List.getElem?_zipIdx] at h
  cases hb : bs[i]? with
  | none => rw [hb] at h; cases h
  | some b =>
    rw [hb] at h
    refine ⟨b, rfl, ?_⟩
    have := Option.some.inj h
    rw [← this]
    simp
def ndE (ts : List Ek) : Nat := nds (ts.map (·.1))
theorem ndE_cons (x : Ek) (ts : List Ek) : ndE (x :: ts) = nd x.1 + ndE ts := rfl
theorem ndE_append (xs ys : List Ek) : ndE (xs ++ ys) = ndE xs + ndE ys := by rw [ndE, List.map_append, nds_append]; rfl
theorem ndE_kids (bs : List Tr) (k : Kn) (p : Pl) (d : Nat) : ndE (kidsE bs k p d) = nds bs := by
  rw [ndE, kidsE, List.map_map]
  have : ((fun x : Ek => x.1) ∘ fun x : Tr × Nat => (x.1, k ++ [(p, x.2)])) = Prod.fst := rfl
  rw [this, List.zipIdx_map_fst]
theorem ndE_len (ts : List Ek) : ts.length ≤ ndE ts := by
  have := nds_len (ts.map (·.1))
  rw [List.length_map] at this
  exact this
abbrev sEn : Stmt := top 7
abbrev NEn : List Str := ["tree", "pending", "found", "node", "known", "inner", "d"]
theorem scEn : FnScope NEn ["tree"] (defScope sEn) := ⟨rfl, rfl, rfl, by decide +kernel, rfl, by decide +kernel, by decide +kernel⟩
def spEn : Sp := fun vs H Q _ => ∃ (v : V) (t : Tr) (m : Nat → Nat) (L : List Pl), vs = [v] ∧ TrAt H v t ∧ Menu m L ∧ Wf m L t ∧
  ∀ r ys H', Same H H' → H' r = some (.tup ys) → TsA H' ys ((en t []).map eD) → Q (.ref r) H'
theorem ok_en (D : Def K mg "ends_of" sEn ["tree"]) (Z : Bi mg) : Cal P w K mg base 1 "ends_of" spEn := by
  refine D.ok scEn (fun vs H Q E h => ?_) (fun f cdv A outer s H vs Q E hr h => ?_)
  · obtain ⟨v, t, m, L, rfl, _⟩ := h
    rfl
  obtain ⟨v, t, m, L, rfl, ht, M, hw, kq⟩ := h
  have hu64 := hr.units
  refine ⟨_, (pss_cons (ps_par (i := 1) (j := 2) (by rfl) scEn.nd rfl rfl (by decide) rfl rfl (pa_cons (pe_lst (pa_cons (pe_tup (pa_cons (pv 0) (pa_cons (pe_tup pa_nil) pa_nil))) pa_nil)) (pa_cons (pe_lst pa_nil) pa_nil)) (by rfl))
    (pss_cons (ps_while PassesOwn.never (pt_truth (pv 1) (by intro _; rfl)) (pss_cons (ps_asg (pe_bm0 PySem.F.plainAttrs_list PySem.F.slot_list_pop PySem.F.type_list_pop mt_pop (pv 1)) (pg_tup rfl (pgs_cons (pg_name (i := 3) scEn.nd rfl (Or.inr rfl)) (pgs_cons (pg_name (i := 4) scEn.nd rfl (Or.inr rfl)) pgs_nil))))
    (pss_one (ps_if (pt_cmpR op_eq (pe_it (pv 3) pe_int) pe_str (nomark _)) (pss_one (ps_expr (pe_bm PySem.F.plainAttrs_list PySem.F.slot_list_append PySem.F.type_list_append mt_append (pv 2) (pa_cons (pe_tup (pa_cons (pe_callTy call_tuple_of (by rfl) Z.tuple (by decide +kernel) (pa_cons (pe_callB (cr_sortedD (enc := kd) hu64) (by rfl) Z.sorted (by decide +kernel) (pa_cons (pv 4) pa_nil)) pa_nil)) (pa_cons (pe_it (pv 3) pe_int) pa_nil))) pa_nil)))) (pss_cons (ps_setLc (i := 5) (own := [("d", 6)]) (g := gName 6) (tt := tYes) rfl scEn.nd rfl rfl (sw_true rfl rfl rfl (by decide +kernel)) (pi_range1 (by rfl) Z.range (pa_cons (pe_callB call_len_seq (by rfl) Z.len PySem.boot_len (pa_cons (pe_it (pv 3) pe_int) pa_nil)) pa_nil)) (blkOk_by (own := [("d", 6)]) (N := NEn) (sc := defScope sEn) (by decide +kernel)) (fun _ _ _ _ _ => (pg_name (i := 6) scEn.nd rfl (Or.inl rfl))) (fun _ _ _ _ _ => by exact pts_nil) (fun _ _ _ _ _ => by exact (pe_tup (pa_cons (pe_itk K rfl (pe_itk K rfl (pv 3) pe_int) (pv 6)) (pa_cons (pe_op (op_catAk K rfl) (pv 4) (pe_tup (pa_cons (pe_tup (pa_cons (pe_itk K rfl (pv 3) pe_int) (pa_cons (pv 6) pa_nil))) pa_nil))) pa_nil)))))
    (pss_one (ps_expr (pe_bm PySem.F.plainAttrs_list PySem.F.slot_list_extend PySem.F.type_list_extend mt_extend (pv 1) (pa_cons (pe_revL (pv 5)) pa_nil)))))))))
    (pss_one (ps_ret (pe_callTy call_tuple_of (by rfl) Z.tuple (by decide +kernel) (pa_cons (pv 2) pa_nil)))))), ?_⟩
  refine ⟨_, rfl, Nat.zero_le _, fun p1 h1 => ⟨(by show 2 ≤ sizeLine; decide), fun p2 h2 => ⟨(by show 1 ≤ sizeLine; decide), fun p3 h3 => ⟨Nat.zero_le _, fun p4 h4 => ⟨_, _, rfl, ?_⟩⟩⟩⟩⟩
  generalize d1 : upd H p1 _ = H1 at *
  obtain ⟨s1, e1⟩ := Same.eqn h1 d1
  generalize d2 : upd H1 p2 _ = H2 at *
  obtain ⟨s2, e2⟩ := Same.eqn h2 d2
  generalize d3 : upd H2 p3 _ = H3 at *
  obtain ⟨s3, e3⟩ := Same.eqn h3 d3
  generalize d4 : upd H3 p4 _ = H4 at *
  obtain ⟨s4, e4⟩ := Same.eqn h4 d4
  have s12 := Same.trans s1 s2
  have s13 := Same.trans s12 s3
  have s14 := Same.trans s13 s4
  have h30 := Same.gone s12 h3
  have h40 := Same.gone s13 h4
  have hne : p3 ≠ p4 := ne_som e3 h4
  have hnw := M.nodes hw
  have hen := en_len hw M.nodup M.pos []
  have hpr := M.prd
  refine ⟨fun n σ H5 => ∃ vs ts fs found x3 x4 x5 x6, σ = [some v, some (.ref p3), some (.ref p4), x3, x4, x5, x6] ∧ Same H H5 ∧ H5 p3 = some (.lst vs.reverse) ∧ H5 p4 = some (.lst fs) ∧ Paired (EkAt H5) vs ts ∧ TsA H5 fs (found.map eD) ∧ found ++ ts.flatMap (fun x => en x.1 x.2) = en t [] ∧ ndE ts ≤ 600 ∧ (∀ x ∈ ts, x.2.length + dp x.1 ≤ 5) ∧ n = ndE ts,
    ⟨_, [.ref p2], [(t, [])], [], [], _, _, _, _, rfl, s14, s4 _ _ e3, e4, .cons ⟨p2, v, p1, rfl, s4 _ _ (s3 _ _ e2), Ts.keep (TK.of s14) _ _ ht, .tup (s4 _ _ (s3 _ _ (s2 _ _ e1))) .nil⟩ .nil, .nil, by simp, by rw [ndE_cons]; exact hnw, fun x hx => by
      rw [List.mem_singleton.mp hx]
      have := hw.dep
      have := M.len
      simp
      omega, rfl⟩, ?_⟩
  rintro n σ H5 ⟨vs, ts, fs, found, x3, x4, x5, x6, rfl, s5, ep, ef, pt, tf, hfe, hnd, hdp, rfl⟩
  have hvl : vs.length ≤ 600 := by
    have := ndE_len ts
    rw [Paired.len pt]; omega
  have hfl : fs.length ≤ 300 := by
    have h1 := congrArg List.length hfe
    rw [List.length_append] at h1
    rw [tf.length, List.length_map]
    omega
  cases pt with
  | nil =>
    refine ⟨_, rfl, _, tru_l ep, itF rfl ⟨_, rfl, p4, fs, rfl, .inl ⟨SqL.of ef, fun r hr => ?_⟩⟩⟩
    have : found = en t [] := by simpa using hfe
    refine kq r fs _ (Same.trans s5 (Same.new hr _)) upd_same ?_
    rw [← this]
    exact TsA.keep (TK.new hr _) _ _ tf
  | @cons v1 u vs ts hv pt =>
    obtain ⟨u, k1⟩ := u
    refine ⟨_, rfl, _, tru_l ep, itT (by rw [rev_empty]; rfl) ⟨_, fun _ _ h => h, ?_⟩⟩
    refine ⟨_, rfl, ty_l ep, _, _, v1, rfl, rfl, ep, pop_get _ _, ?_⟩
    rw [pop_rest]
    have k6 : TK H5 (upd H5 p3 (.lst vs.reverse)) := TK.lst ep _
    have s6 : Same H (upd H5 p3 (.lst vs.reverse)) := Same.lst s5 h30
    have e6 : upd H5 p3 (.lst vs.reverse) p3 = some _ := upd_same
    have ef6 : upd H5 p3 (.lst vs.reverse) p4 = some _ := upd_at ef (Ne.symm hne)
    generalize upd H5 p3 (.lst vs.reverse) = H6 at *
    obtain ⟨q1, y1, z1, rfl, eq1, hy1, hz1⟩ := keeps_ek _ _ _ _ k6 hv
    have pt6 := Paired.keep (F := EkAt) keeps_ek k6 pt
    have tf6 := TsA.keep k6 _ _ tf
    have hnd : nd u + ndE ts ≤ 600 := by rw [ndE_cons] at hnd; exact hnd
    have hndk : ndE ((u, k1) :: ts) = nd u + ndE ts := rfl
    have hdu : k1.length + dp u ≤ 5 := hdp (u, k1) (List.mem_cons_self ..)
    have hupos := nd_pos u
    obtain ⟨_, zs, hz2, ez, tz⟩ := hz1.tupE
    cases hz2
    have hzl : zs.length = k1.length := by rw [tz.length, List.length_map]
    refine ⟨q1, _, rfl, SqT.of eq1, rfl, _, _, rfl, _, _, rfl, rfl, ?_⟩
    rw [List.flatMap_cons] at hfe
    cases u with
    | fin z =>
      obtain ⟨p, x', rfl, e, hx'⟩ := hy1.fin
      refine ⟨_, rfl, p, _, _, _, rfl, rfl, SqT.of e, rfl, rfl, _, rfl, itT (dec_same _) ?_⟩
      refine ⟨_, rfl, ty_l ef6, _, rfl, z1, zs, k1, rfl, .inr (SqT.of ez), tz, kd_alike k1, kd_sortable k1, fun b _ => kd_depth b, fun a7 ys7 h7 ty7 => ?_⟩
      generalize d7 : upd H6 a7 _ = H7 at *
      obtain ⟨s7, e7⟩ := Same.eqn h7 d7
      refine ⟨a7, _, rfl, .inl ⟨SqL.of e7, fun a8 h8 => ?_⟩⟩
      generalize d8 : upd H7 a8 _ = H8 at *
      obtain ⟨s8, e8⟩ := Same.eqn h8 d8
      have s68 := Same.trans s7 s8
      refine ⟨_, rfl, p, _, _, _, rfl, rfl, SqT.of (s68 _ _ e), rfl, (by show 2 ≤ sizeLine; decide), fun a9 h9 => ?_⟩
      generalize d9 : upd H8 a9 _ = H9 at *
      obtain ⟨s9, e9⟩ := Same.eqn h9 d9
      have s69 := Same.trans s68 s9
      refine ⟨p4, _, _, rfl, rfl, s69 _ _ ef6, lt_line (by omega), ?_⟩
      have k10 : TK H9 (upd H9 p4 (.lst (fs ++ [.ref a9]))) := TK.lst (s69 _ _ ef6) _
      have k6x := TK.trans (TK.of s69) k10
      refine ⟨ndE ts, by rw [hndk]; omega, vs, ts, fs ++ [.ref a9], found ++ [(k1, z)], _, _, _, _, rfl, Same.lst (Same.trans s6 s69) h40, upd_at (s69 _ _ e6) hne, upd_same, Paired.keep (F := EkAt) keeps_ek k6x pt6, ?_, ?_, by omega, fun x hx => hdp x (List.mem_cons_of_mem _ hx), rfl⟩
      · rw [List.map_append]
        refine TsA.append (TsA.keep k6x _ _ tf6) (.cons (.tup (k10 _ _ e9) (.cons (.tup (k10 _ _ (s9 _ _ e8)) (TsA.keep (TK.trans (TK.of s9) k10) _ _ (TsA.keep (TK.of s68) _ _ ty7))) (.cons (Ts.keep k6x _ _ hx') .nil))) .nil)
      · rw [← hfe, List.append_assoc]
        rfl
    | ask p bs =>
      obtain ⟨p1', r1, b1, xs, rfl, e, er, eb1, tb⟩ := hy1.ask
      have hxs : xs.length = bs.length := by rw [tb.length, List.length_map]
      have hndb : nd (.ask p bs) = 1 + nds bs := rfl
      have hdpb : dp (.ask p bs) = 1 + dps bs := rfl
      have hbn := nds_len bs
      refine ⟨_, rfl, p1', _, _, _, rfl, rfl, SqT.of e, rfl, rfl, _, rfl, itF dec_ask_end ?_⟩
      refine ⟨_, rfl, p1', _, _, _, rfl, rfl, SqT.of e, rfl, b1, _, rfl, .inr (SqT.of eb1), _, rfl, by omega, by omega, fun D0 hD0 => ?_⟩
      refine lc_rangeM (n := xs.length) (F := EkAt) keeps_ek.d (kidsE bs k1 p 0) (by rw [kidsE_len, hxs]) (by omega) hD0 (fun i H7 z hz s7 Q7 hq7 => ⟨rfl, ?_⟩) (fun H7 acc s7 eD7 hacc => ?_)
      · obtain ⟨b, hb1, rfl⟩ := kidsE_at hz
        obtain ⟨vb, hvb, htb⟩ := TrAt.kid tb hb1
        refine ⟨_, rfl, p1', _, _, _, rfl, rfl, SqT.of (s7 _ _ e), rfl, _, rfl, b1, _, _, _, rfl, rfl, SqT.of (s7 _ _ eb1), atI_nat hvb, ?_⟩
        refine ⟨_, rfl, _, rfl, p1', _, _, _, rfl, rfl, SqT.of (s7 _ _ e), rfl, _, rfl, (by show 2 ≤ sizeLine; decide), fun a8 h8 => ⟨(by show 1 ≤ sizeLine; decide), fun a9 h9 => ?_⟩⟩
        generalize d8 : upd H7 a8 _ = H8 at *
        obtain ⟨s8, e8⟩ := Same.eqn h8 d8
        generalize d9 : upd H8 a9 _ = H9 at *
        obtain ⟨s9, e9⟩ := Same.eqn h9 d9
        have s79 := Same.trans s8 s9
        have s69 := Same.trans s7 s79
        have hkd : Ts H9 (.ref a8) (kd (p, i)) := .tup (s9 _ _ e8) (.cons (PlAt_mk (s69 _ _ er)) (.cons (.int _) .nil))
        refine ⟨z1, a9, zs, _, rfl, rfl, SqT.of (s69 _ _ ez), SqT.of e9, le_line (by simp; omega), fun hnil => ?_, fun _ h => (nomatch h), fun hnn _ a10 h10 => ?_⟩
        · refine ⟨(by show 2 ≤ sizeLine; decide), fun a11 h11 => ?_⟩
          have s11 := Same.new h11 (.tup [vb, .ref a9])
          have hk0 : k1 = [] := List.length_eq_zero_iff.mp (by rw [← hzl, hnil]; rfl)
          refine hq7 _ _ (Same.trans s79 s11) ⟨a11, vb, a9, rfl, upd_same, Ts.keep (TK.of (Same.trans s69 s11)) _ _ htb, ?_⟩
          rw [hk0]
          exact .tup (s11 _ _ e9) (.cons (Ts.keep (TK.of s11) _ _ hkd) .nil)
        · refine ⟨(by show 2 ≤ sizeLine; decide), fun a11 h11 => ?_⟩
          generalize d10 : upd H9 a10 _ = H10 at *
          obtain ⟨s10, e10⟩ := Same.eqn h10 d10
          have s11 := Same.new h11 (.tup [vb, .ref a10])
          have s1011 := Same.trans s10 s11
          refine hq7 _ _ (Same.trans s79 s1011) ⟨a11, vb, a10, rfl, upd_same, Ts.keep (TK.of (Same.trans s69 s1011)) _ _ htb, ?_⟩
          rw [List.map_append]
          exact .tup (s11 _ _ e10) (TsA.append (TsA.keep (TK.of (Same.trans s69 s1011)) _ _ tz) (.cons (Ts.keep (TK.of s1011) _ _ hkd) .nil))
      · have hal : acc.length = bs.length := by rw [Paired.len hacc, kidsE_len]
        refine ⟨_, rfl, ty_l (s7 _ _ e6), _, rfl, D0, _, rfl, SqL.of eD7, fun a8 h8 => ?_⟩
        generalize d8 : upd H7 a8 _ = H8 at *
        obtain ⟨s8, e8⟩ := Same.eqn h8 d8
        have s68 := Same.trans s7 s8
        refine ⟨p3, a8, _, _, rfl, rfl, s68 _ _ e6, e8, le_line (by rw [List.length_reverse, List.length_reverse]; rw [List.length_cons] at hvl; omega), ?_⟩
        have k9 : TK H8 (upd H8 p3 (.lst (vs.reverse ++ acc.reverse))) := TK.lst (s68 _ _ e6) _
        have k69 := TK.trans (TK.of s68) k9
        refine ⟨ndE (kidsE bs k1 p 0 ++ ts), ?_, acc ++ vs, kidsE bs k1 p 0 ++ ts, fs, found, _, _, _, _, rfl, Same.lst (Same.trans s6 s68) h30, ?_, upd_at (s68 _ _ ef6) (Ne.symm hne), Paired.append (Paired.keep (F := EkAt) keeps_ek (TK.trans (TK.of s8) k9) hacc) (Paired.keep (F := EkAt) keeps_ek k69 pt6), TsA.keep k69 _ _ tf6, ?_, ?_, fun x hx => ?_, rfl⟩
        · rw [ndE_append, ndE_kids, hndk, hndb]; omega
        · rw [upd_same, List.reverse_append]
        · rw [List.flatMap_append, kidsE_en, ← hfe]
          rfl
        · rw [ndE_append, ndE_kids]; omega
        · rcases List.mem_append.mp hx with hx | hx
          · obtain ⟨i, hi⟩ := List.getElem?_of_mem hx
            obtain ⟨b, hb, rfl⟩ := kidsE_at hi
            have := dps_mem (List.mem_of_getElem? hb)
            simp
            omega
          · exact hdp x (List.mem_cons_of_mem _ hx)
end K16

set_option Elab.async false
set_option linter.all false
set_option maxRecDepth 100000
set_option maxHeartbeats 4000000
/-! The law's machine: begun, draw, of; value. -/
namespace K16
open PySem PySem.Spec PyProof.Rows L2
open Classical
section
variable {P : Program} {w : World} {K : PySem.W.Frag} {mg : Str → Option Value} {base : Heap}
/-- a def that is not called -/
theorem Cal.none {x : Str} {st : Stmt} {ps : List Str} {sp : Sp} {k : Nat} (D : Def K mg x st ps) (h : ∀ vs H Q E, ¬ sp vs H Q E) : Cal P w K mg base k x sp := by
  obtain ⟨f, fd, F, hm, hb⟩ := D.ex
  exact ⟨f, fd, ps, ⟨fun vs H Q E z => (h _ _ _ _ z).elim, fun A outer s H args us vs Q E _ _ _ _ z => (h _ _ _ _ z).elim⟩, hm, F.kp, hb⟩
theorem Def.recur {x : Str} {st : Stmt} {ps : List Str} {b : Nat} (D : Def K mg x st ps) (sps : Nat → Sp) (h0 : ∀ vs H Q E, ¬ sps 0 vs H Q E) (step : ∀ j, Cal P w K mg base (b + j) x (sps j) → Cal P w K mg base (b + j + 1) x (sps (j + 1))) : ∀ j, Cal P w K mg base (b + j) x (sps j)
  | 0 => Cal.none D h0
  | j + 1 => step j (Def.recur D sps h0 step j)

/-! ### the machine -/
def mKeys (left seed : Int) (c : Addr) (spot : Nat) : List (Key × V) := [(.inr "left", .int left), (.inr "seed", .int seed), (.inr "cells", .ref c), (.inr "spot", .int (spot : Int)), (.inr "next", .int 0), (.inr "quants", .int 3)]
theorem get_left (left seed : Int) (c : Addr) (spot : Nat) : valV (mKeys left seed c spot) (.inr "left") = some (.int left) := by rfl
theorem get_seed (left seed : Int) (c : Addr) (spot : Nat) : valV (mKeys left seed c spot) (.inr "seed") = some (.int seed) := by rfl
theorem get_cells (left seed : Int) (c : Addr) (spot : Nat) : valV (mKeys left seed c spot) (.inr "cells") = some (.ref c) := by rfl
theorem get_spot (left seed : Int) (c : Addr) (spot : Nat) : valV (mKeys left seed c spot) (.inr "spot") = some (.int (spot : Int)) := by rfl
theorem put_left (left seed : Int) (c : Addr) (spot : Nat) (l2 : Int) : putK (mKeys left seed c spot) (.inr "left") (.int l2) = mKeys l2 seed c spot := by rfl
theorem put_spot (left seed : Int) (c : Addr) (spot n2 : Nat) : putK (mKeys left seed c spot) (.inr "spot") (.int (n2 : Int)) = mKeys left seed c n2 := by rfl
section
variable {H : Hp} {a c : Addr} {left seed : Int} {spot : Nat} (e : H a = some (.dK (mKeys left seed c spot)))
include e
theorem d_left : DGet H a (.str "left") (some (.int left)) := by have h := DGet.k (k := .inr "left") e; rw [get_left] at h; exact h
theorem d_seed : DGet H a (.str "seed") (some (.int seed)) := by have h := DGet.k (k := .inr "seed") e; rw [get_seed] at h; exact h
theorem d_cells : DGet H a (.str "cells") (some (.ref c)) := by have h := DGet.k (k := .inr "cells") e; rw [get_cells] at h; exact h
theorem d_spot : DGet H a (.str "spot") (some (.int (spot : Int))) := by have h := DGet.k (k := .inr "spot") e; rw [get_spot] at h; exact h
theorem p_left (l2 : Int) : DPut H a (.str "left") (.int l2) (upd H a (.dK (mKeys l2 seed c spot))) := by have h := DPut.k (k := .inr "left") (v := .int l2) e (lt_line (by show 6 ≤ 1000000; decide)); rw [put_left] at h; exact h
theorem p_spot : DPut H a (.str "spot") (.int ((spot : Int) + 1)) (upd H a (.dK (mKeys left seed c (spot + 1)))) := by
  have h := DPut.k (k := .inr "spot") (v := .int ((spot + 1 : Nat) : Int)) e (lt_line (by show 6 ≤ 1000000; decide))
  rw [put_spot] at h
  exact h
end
/-- the machine at a, at most n draws old -/
def MAt (H : Hp) (a c : Addr) (n : Nat) : Prop := ∃ (left seed : Int) (spot : Nat) (cs : List Int), H a = some (.dK (mKeys left seed c spot)) ∧ H c = some (.lst (cs.map V.int)) ∧ 0 < cs.length ∧ cs.length ≤ 200 ∧ 0 ≤ seed ∧ seed < 2147483647 ∧ spot ≤ n
/-- all stands but dicts of texts -/
def TM (H H' : Hp) : Prop := ∀ b o, (∀ kvs, o ≠ HO.dK kvs) → H b = some o → H' b = some o
theorem TM.refl (H : Hp) : TM H H := fun _ _ _ e => e
theorem TM.of {H H' : Hp} (s : Same H H') : TM H H' := fun b o _ e => s b o e
theorem TM.trans {H H1 H2 : Hp} (a : TM H H1) (b : TM H1 H2) : TM H H2 := fun c o n e => b c o n (a c o n e)
theorem TM.put {H : Hp} {a : Addr} {kvs : List (Key × V)} (h : H a = some (.dK kvs)) (o : HO) : TM H (upd H a o) := fun b x n e => by
  have : b ≠ a := fun z => by rw [z, h] at e; exact n kvs (Option.some.inj e).symm
  rw [upd_ne this]; exact e
theorem TM.td {H H' : Hp} (h : TM H H') : TK H H' := fun b xs e => h b _ (fun _ z => nomatch z) e
theorem TM.lst {H H' : Hp} (h : TM H H') {b : Addr} {xs : List V} (e : H b = some (.lst xs)) : H' b = some (.lst xs) := h b _ (fun _ z => nomatch z) e
theorem TM.kn {H H' : Hp} (h : TM H H') {b : Addr} {k : Kf} (e : KnAt H b k) : KnAt H' b k := let ⟨ps, h1, h2⟩ := e; ⟨ps, h b _ (fun _ z => nomatch z) h1, h2⟩
theorem TM.fresh {H H1 : Hp} (h : TM H H1) {b : Addr} (hb : H b = none) (o : HO) : TM H (upd H1 b o) := fun c x n e => by
  rw [upd_ne (ne_som e hb)]; exact h c x n e
theorem MAt.mono {H : Hp} {a c : Addr} {n n' : Nat} (h : MAt H a c n) (hn : n ≤ n') : MAt H a c n' := by
  obtain ⟨left, seed, spot, cs, h1, h2, h3, h4, h5, h6, h7⟩ := h
  exact ⟨left, seed, spot, cs, h1, h2, h3, h4, h5, h6, by omega⟩
theorem MAt.same {H H' : Hp} {a c : Addr} {n : Nat} (h : MAt H a c n) (s : Same H H') : MAt H' a c n := by
  obtain ⟨left, seed, spot, cs, h1, h2, h3⟩ := h
  exact ⟨left, seed, spot, cs, s _ _ h1, s _ _ h2, h3⟩
theorem MAt.cell {H : Hp} {a c : Addr} {n : Nat} (h : MAt H a c n) {b : Addr} (hb : H b = none) : b ≠ c := by
  obtain ⟨left, seed, spot, cs, h1, h2, h3⟩ := h
  exact (ne_som h2 hb).symm
theorem MAt.lst {H : Hp} {a c : Addr} {n : Nat} (h : MAt H a c n) {b : Addr} {xs : List V} (hb : H b = some (.lst xs)) (hc : b ≠ c) (o : HO) : MAt (upd H b o) a c n := by
  obtain ⟨left, seed, spot, cs, h1, h2, h3⟩ := h
  exact ⟨left, seed, spot, cs, upd_at h1 (ne_of h1 hb (fun z => nomatch z)), upd_at h2 (Ne.symm hc), h3⟩
theorem MAt.dict {H : Hp} {a c : Addr} {n : Nat} (h : MAt H a c n) {b : Addr} {xs : List (List Key × V)} (hb : H b = some (.dT xs)) (o : HO) : MAt (upd H b o) a c n := by
  obtain ⟨left, seed, spot, cs, h1, h2, h3⟩ := h
  exact ⟨left, seed, spot, cs, upd_at h1 (ne_of h1 hb (fun z => nomatch z)), upd_at h2 (ne_of h2 hb (fun z => nomatch z)), h3⟩
end
variable {P : Program} {w : World} {K : PySem.W.Frag} {mg : Str → Option Value} {base : Heap}

abbrev sDr : Stmt := top 27
abbrev NDr : List Str := ["_law_m", "_law_below", "_law_found", "_law_spot", "_law_cells", "_law_added", "_law_cell", "_law_blend"]
theorem scDr : FnScope NDr ["_law_m", "_law_below"] (defScope sDr) := ⟨rfl, rfl, rfl, by decide +kernel, rfl, by decide +kernel, by decide +kernel⟩
def spDr : Sp := fun vs H Q _ => ∃ (a c : Addr) (below : Int) (n : Nat), vs = [.ref a, .int below] ∧ MAt H a c n ∧ n < 100000 ∧ 0 < below ∧ below < 1073741824 ∧
  ∀ (r : Nat) H', (r : Int) < below → TM H H' → MAt H' a c (n + 1) → Q (.int (r : Nat)) H'
theorem ok_dr (D : Def K mg "_law_draw" sDr ["_law_m", "_law_below"]) (Z : Bi mg) : Cal P w K mg base 1 "_law_draw" spDr := by
  refine D.ok scDr (fun vs H Q E h => ?_) (fun f cdv A outer s H vs Q E hr h => ?_)
  · obtain ⟨a, c, below, n, rfl, _⟩ := h
    rfl
  obtain ⟨a, c, below, n, rfl, ⟨left, seed, spot, cs, ea, ec, hc0, hc1, hs0, hs1, hsp⟩, hn, hb0, hb1, kq⟩ := h
  have hu := hu_of hr
  refine ⟨_, (pss_cons (ps_if (pt_cmpR op_gt (pe_dget hu (pv 0) pe_str (fun _ _ => rfl)) pe_int (nomark _)) (pss_cons (ps_set (i := 2) scDr.nd rfl (Or.inl rfl) (pe_op op_mod (pe_callTy call_int1 (by rfl) Z.int (by decide +kernel) (pa_cons (pe_dget hu (pv 0) pe_str (fun _ _ => rfl)) pa_nil)) (pv 1)))
    (pss_cons (ps_dput hu (pv 0) pe_str (pe_op op_fdiv (pe_dget hu (pv 0) pe_str (fun _ _ => rfl)) (pv 1)) rfl)
    (pss_one (ps_ret (pv 2))))) pss_nil)
    (pss_cons (ps_set (i := 3) scDr.nd rfl (Or.inl rfl) (pe_dget hu (pv 0) pe_str (fun _ _ => rfl)))
    (pss_cons (ps_dput hu (pv 0) pe_str (pe_op op_add (pv 3) pe_int) rfl)
    (pss_cons (ps_par (i := 4) (j := 5) (by rfl) scDr.nd rfl rfl (by decide) rfl rfl (pa_cons (pe_dget hu (pv 0) pe_str (fun _ _ => rfl)) (pa_cons (pe_op op_add (pe_dget hu (pv 0) pe_str (fun _ _ => rfl)) (pe_op op_mul (pe_op op_mul pe_int (pv 3)) (pv 3))) pa_nil)) (by rfl))
    (pss_cons (ps_set (i := 6) scDr.nd rfl (Or.inl rfl) (pe_il (pv 4) (pe_op op_mod (pe_callTy call_int1 (by rfl) Z.int (by decide +kernel) (pa_cons (pv 3) pa_nil)) (pe_callB call_len_seq (by rfl) Z.len PySem.boot_len (pa_cons (pv 4) pa_nil)))))
    (pss_cons (ps_set (i := 7) scDr.nd rfl (Or.inl rfl) (pe_op op_mod (pe_callTy call_int1 (by rfl) Z.int (by decide +kernel) (pa_cons (pe_op op_add (pe_op op_mul (pv 6) (pe_op op_add (pe_op op_mul pe_int (pv 3)) pe_int)) (pv 5)) pa_nil)) pe_int))
    (pss_cons (ps_set (i := 7) scDr.nd rfl (Or.inl rfl) (pe_op op_mod (pe_callTy call_int1 (by rfl) Z.int (by decide +kernel) (pa_cons (pe_op op_add (pe_op op_add (pe_op op_mul (pv 7) (pv 7)) (pe_op op_mul pe_int (pv 3))) (pe_dget hu (pv 0) pe_str (fun _ _ => rfl))) pa_nil)) pe_int))
    (pss_one (ps_ret (pe_op op_mod (pe_op op_fdiv (pe_op op_mod (pe_callTy call_int1 (by rfl) Z.int (by decide +kernel) (pa_cons (pe_op op_add (pe_op op_mul (pv 7) pe_int) (pv 3)) pa_nil)) pe_int) pe_int) (pv 1))))))))))), ?_⟩
  refine ⟨_, rfl, a, _, rfl, d_left ea, left, 0, rfl, rfl, _, rfl, ?_⟩
  by_cases hl : (0 : Int) < left
  · refine itT (decide_eq_true hl) ?_
    refine ⟨_, rfl, a, _, rfl, d_left ea, .inl ⟨left, rfl, _, rfl, left, below, rfl, rfl, hb0, ?_⟩⟩
    refine ⟨_, rfl, a, _, rfl, d_left ea, _, rfl, left, below, rfl, rfl, ⟨hb0, hb1⟩, _, rfl, a, _, rfl, p_left ea _, _, rfl, ?_⟩
    obtain ⟨r, hr'⟩ := Int.eq_ofNat_of_zero_le (Int.emod_nonneg left (by omega : below ≠ 0))
    have h := kq r _ (by rw [← hr']; exact Int.emod_lt_of_pos left hb0) (TM.put ea _) ⟨left / below, seed, spot, cs, upd_same, upd_at ec (ne_of ec ea (fun z => nomatch z)), hc0, hc1, hs0, hs1, by omega⟩
    rw [← hr'] at h
    exact h
  · refine itF (decide_eq_false hl) ?_
    refine ⟨_, rfl, a, _, rfl, d_spot ea, ?_⟩
    refine ⟨_, rfl, (spot : Int), 1, rfl, rfl, _, rfl, a, _, rfl, p_spot ea, ?_⟩
    have ea1 : upd H a (.dK (mKeys left seed c (spot + 1))) a = some _ := upd_same
    have ec1 : upd H a (.dK (mKeys left seed c (spot + 1))) c = some _ := upd_at ec (ne_of ec ea (fun z => nomatch z))
    have tm : TM H (upd H a (.dK (mKeys left seed c (spot + 1)))) := TM.put ea _
    generalize upd H a (.dK (mKeys left seed c (spot + 1))) = H1 at *
    refine ⟨_, rfl, a, _, rfl, d_cells ea1, _, rfl, a, _, rfl, d_seed ea1, _, rfl, 40503, (spot : Int), rfl, rfl, .inl (by omega), _, rfl, _, (spot : Int), rfl, rfl, .inr (by omega), _, _, rfl, rfl, _, _, rfl, ?_⟩
    have hlen : (cs.map V.int).length = cs.length := List.length_map ..
    have hcl : (0 : Int) < ((cs.map V.int).length : Int) := by rw [hlen]; omega
    obtain ⟨j, hj⟩ := Int.eq_ofNat_of_zero_le (Int.emod_nonneg (spot : Int) (by omega : ((cs.map V.int).length : Int) ≠ 0))
    have hjl : j < cs.length := by
      have := Int.emod_lt_of_pos (spot : Int) hcl
      rw [hj, hlen] at this
      omega
    have hget : (cs.map V.int)[j]? = some (.int cs[j]) := by rw [List.getElem?_map, List.getElem?_eq_getElem hjl]; rfl
    refine ⟨_, rfl, _, rfl, .inl ⟨(spot : Int), rfl, _, rfl, c, _, rfl, .inl (SqL.of ec1), _, _, rfl, rfl, hcl, c, _, _, _, rfl, rfl, SqL.of ec1, by rw [hj]; exact atI_nat hget, ?_⟩⟩
    refine ⟨_, rfl, _, rfl, 2, (spot : Int), rfl, rfl, .inl (by omega), _, 3, rfl, rfl, cs[j], _, rfl, rfl, .inr (by omega), _, rfl, _, _, rfl, rfl, .inl ⟨_, rfl, _, 2147483647, rfl, rfl, by omega, ?_⟩⟩
    let z1 : Int := cs[j] * (2 * (spot : Int) + 3) + (seed + 40503 * (spot : Int) * (spot : Int))
    have hz1 : 0 ≤ z1 % 2147483647 ∧ z1 % 2147483647 < 2147483647 := ⟨Int.emod_nonneg _ (by omega), Int.emod_lt_of_pos _ (by omega)⟩
    let z2 : Int := (z1 % 2147483647) * (z1 % 2147483647) + 69621 * (spot : Int) + seed
    have hz2 : 0 ≤ z2 % 2147483629 ∧ z2 % 2147483629 < 2147483629 := ⟨Int.emod_nonneg _ (by omega), Int.emod_lt_of_pos _ (by omega)⟩
    refine ⟨_, rfl, _, rfl, z1 % 2147483647, z1 % 2147483647, rfl, rfl, .inl ⟨by omega, by omega⟩, _, rfl, 69621, (spot : Int), rfl, rfl, .inl (by omega), _, _, rfl, rfl, _, rfl, a, _, rfl, d_seed ea1, _, _, rfl, rfl, .inl ⟨_, rfl, _, 2147483629, rfl, rfl, by omega, ?_⟩⟩
    refine ⟨_, rfl, z2 % 2147483629, 48271, rfl, rfl, .inr (by omega), _, rfl, _, (spot : Int), rfl, rfl, .inl ⟨_, rfl, _, 2147483647, rfl, rfl, by omega, _, 11, rfl, rfl, ⟨by omega, by omega⟩, _, rfl, _, below, rfl, rfl, hb0, ?_⟩⟩
    let z3 : Int := (z2 % 2147483629 * 48271 + (spot : Int)) % 2147483647 / 11
    obtain ⟨r, hr'⟩ := Int.eq_ofNat_of_zero_le (Int.emod_nonneg z3 (by omega : below ≠ 0))
    have h := kq r _ (by rw [← hr']; exact Int.emod_lt_of_pos z3 hb0) tm ⟨left, seed, spot + 1, cs, ea1, ec1, hc0, hc1, hs0, hs1, by omega⟩
    rw [← hr'] at h
    exact h
abbrev sOf : Stmt := top 28
abbrev NOf : List Str := ["_law_m", "_law_some"]
theorem scOf : FnScope NOf ["_law_m", "_law_some"] (defScope sOf) := ⟨rfl, rfl, rfl, by decide +kernel, rfl, by decide +kernel, by decide +kernel⟩
def spOf : Sp := fun vs H Q _ => ∃ (a c l : Addr) (n : Nat) (xs : List V), vs = [.ref a, .ref l] ∧ MAt H a c n ∧ n < 100000 ∧ H l = some (.lst xs) ∧ 0 < xs.length ∧ xs.length ≤ 1000 ∧
  ∀ (i : Nat) x H', xs[i]? = some x → TM H H' → MAt H' a c (n + 1) → Q x H'
theorem ok_of (D : Def K mg "_law_of" sOf ["_law_m", "_law_some"]) (Z : Bi mg) (C__law_draw : Cal P w K mg base 1 "_law_draw" spDr) : Cal P w K mg base 2 "_law_of" spOf := by
  refine D.ok scOf (fun vs H Q E h => ?_) (fun f cdv A outer s H vs Q E hr h => ?_)
  · obtain ⟨a, c, l, n, xs, rfl, _⟩ := h
    rfl
  obtain ⟨a, c, l, n, xs, rfl, hm, hn, el, h0, h1, kq⟩ := h
  refine ⟨_, (pss_one (ps_ret (pe_il (pv 1) (pe_cal C__law_draw (hr.mono (by omega)) (pa_cons (pv 0) (pa_cons (pe_callB call_len_seq (by rfl) Z.len PySem.boot_len (pa_cons (pv 1) pa_nil)) pa_nil)))))), ?_⟩
  refine ⟨_, rfl, _, rfl, _, rfl, l, xs, rfl, .inl (SqL.of el), a, c, (xs.length : Int), n, rfl, hm, hn, by omega, by omega, fun r H1 hr1 tm hm1 => ?_⟩
  have hrl : r < xs.length := by omega
  have hg : xs[r]? = some xs[r] := List.getElem?_eq_getElem hrl
  exact ⟨l, xs, _, _, rfl, rfl, SqL.of (tm.lst el), atI_nat hg, kq r _ H1 hg tm hm1⟩
abbrev sVa : Stmt := top 31
abbrev NVa : List Str := ["_law_tree_here", "_law_filling"]
theorem scVa : FnScope NVa ["_law_tree_here", "_law_filling"] (defScope sVa) := ⟨rfl, rfl, rfl, by decide +kernel, rfl, by decide +kernel, by decide +kernel⟩
def spVa : Sp := fun vs H Q _ => ∃ (v : V) (a : Addr) (t : Tr) (m : Nat → Nat) (L : List Pl) (k : Kf) (g : Pl → Nat), vs = [v, .ref a] ∧ TrAt H v t ∧ KnAt H a k ∧ Wf m L t ∧ (∀ p ∈ L, k p = some (g p)) ∧ Vd m L g ∧ ∀ r, Ts H r (vd (ev t g)) → Q r H
theorem ok_va (D : Def K mg "_law_value" sVa ["_law_tree_here", "_law_filling"]) : Cal P w K mg base 1 "_law_value" spVa := by
  refine D.ok scVa (fun vs H Q E h => ?_) (fun f cdv A outer s H vs Q E hr h => ?_)
  · obtain ⟨v, a, t, m, L, k, g, rfl, _⟩ := h
    rfl
  obtain ⟨v, a, t, m, L, k, g, rfl, ht, hk, hw, hkg, hv, kq⟩ := h
  have hu := hu_of hr
  refine ⟨_, (pss_cons (ps_while PassesOwn.never (pt_cmpR op_eq (pe_it (pv 0) pe_int) pe_str (nomark _)) (pss_one (ps_set (i := 0) scVa.nd rfl (Or.inl rfl) (pe_it (pe_it (pv 0) pe_int) (pe_dget hu (pv 1) (pe_it (pv 0) pe_int) (fun _ _ => rfl))))))
    (pss_one (ps_ret (pe_it (pv 0) pe_int)))), ?_⟩
  refine ⟨fun n σ H1 => ∃ v1 t1, σ = [some v1, some (.ref a)] ∧ H1 = H ∧ TrAt H v1 t1 ∧ Wf m L t1 ∧ ev t1 g = ev t g ∧ n = nd t1, ⟨_, v, t, rfl, rfl, ht, hw, rfl, rfl⟩, ?_⟩
  rintro n σ H1 ⟨v1, t1, rfl, rfl, ht1, hw1, hs1, rfl⟩
  cases t1 with
  | fin u =>
    obtain ⟨p, x, rfl, e, hx⟩ := ht1.fin
    refine ⟨_, rfl, p, _, _, _, rfl, rfl, SqT.of e, rfl, rfl, _, rfl, itF dec_end_ask ?_⟩
    refine ⟨_, rfl, p, _, _, _, rfl, rfl, SqT.of e, rfl, kq x ?_⟩
    rw [← hs1]
    exact hx
  | ask p bs =>
    obtain ⟨p1, r1, b1, xs, rfl, e, er, eb, tb⟩ := ht1.ask
    cases hw1 with
    | ask hp hl hb =>
    have h0 : g p < bs.length := by rw [hl]; exact hv p hp
    have e1 : bs[g p]? = some bs[g p] := List.getElem?_eq_getElem h0
    obtain ⟨u, hu1, hu2⟩ := TrAt.kid tb e1
    have hg := hk.get (p := p) er
    rw [hkg p hp] at hg
    refine ⟨_, rfl, p1, _, _, _, rfl, rfl, SqT.of e, rfl, rfl, _, rfl, itT (dec_same _) ⟨_, fun _ _ h => h, ?_⟩⟩
    refine ⟨_, rfl, p1, _, _, _, rfl, rfl, SqT.of e, rfl, _, rfl, _, rfl, p1, _, _, _, rfl, rfl, SqT.of e, rfl, a, _, rfl, hg, b1, _, _, _, rfl, rfl, SqT.of eb, atI_nat hu1, ?_⟩
    refine ⟨nd bs[g p], nd_lt (List.getElem_mem h0), u, bs[g p], rfl, rfl, hu2, (hb _ (List.getElem_mem h0)).mono fun x hx => rem_sub hx, ?_, rfl⟩
    rw [← hs1, ev_ask (f := g) e1]
end K16

set_option Elab.async false
set_option linter.all false
set_option maxRecDepth 100000
set_option maxHeartbeats 4000000
/-! fillings, count, ends of the law. -/
namespace K16
open PySem PySem.Spec PyProof.Rows L2
open Classical
variable {P : Program} {w : World} {K : PySem.W.Frag} {mg : Str → Option Value} {base : Heap}

/-! ### sizes, places, fillings -/
def SzAt (H : Hp) (s : Addr) (m : Nat → Nat) : Prop := ∃ ss : List Nat, H s = some (.tup (ss.map fun (n : Nat) => V.int (n : Int))) ∧ m = fun i => ss.getD i 0
theorem SzAt.tk {H H' : Hp} {s : Addr} {m : Nat → Nat} (h : SzAt H s m) (k : TK H H') : SzAt H' s m := let ⟨ss, h1, h2⟩ := h; ⟨ss, k _ _ h1, h2⟩
theorem SzAt.get {H : Hp} {s : Addr} {m : Nat → Nat} (h : SzAt H s m) {i : Nat} (hi : 0 < m i) : ∃ xs, H s = some (.tup xs) ∧ xs[i]? = some (.int ((m i : Nat) : Int)) := by
  obtain ⟨ss, h1, rfl⟩ := h
  refine ⟨_, h1, ?_⟩
  rw [List.getElem?_map]
  dsimp only at hi ⊢
  cases e : ss[i]? with
  | none => rw [List.getD_eq_getElem?_getD, e] at hi; exact absurd hi (Nat.lt_irrefl 0)
  | some n => rw [List.getD_eq_getElem?_getD, e]; rfl
def PlL (H : Hp) (l : Addr) (L : List Pl) : Prop := ∃ ys, H l = some (.lst ys) ∧ TsA H ys (L.map pd)
theorem PlL.same {H H' : Hp} {l : Addr} {L : List Pl} (h : PlL H l L) (s : Same H H') : PlL H' l L := let ⟨ys, h1, h2⟩ := h; ⟨ys, s _ _ h1, TsA.keep (TK.of s) _ _ h2⟩
theorem PlL.tm {H H' : Hp} {l : Addr} {L : List Pl} (h : PlL H l L) (s : TM H H') : PlL H' l L := let ⟨ys, h1, h2⟩ := h; ⟨ys, s.lst h1, TsA.keep s.td _ _ h2⟩
theorem pl_at {H : Hp} {ys : List V} {L : List Pl} (h : TsA H ys (L.map pd)) {i : Nat} {x : V} (hx : ys[i]? = some x) : ∃ p q, L[i]? = some p ∧ x = .ref q ∧ PlA H q p := by
  obtain ⟨p, hp, h1⟩ := Paired.nth' (Paired.unmapR (f := pd) h.paired) hx
  obtain ⟨q, h2, h3⟩ := PlAt_tup h1
  exact ⟨p, q, hp, h2, h3⟩
theorem pl_of {H : Hp} {ys : List V} {L : List Pl} (h : TsA H ys (L.map pd)) {i : Nat} {p : Pl} (hp : L[i]? = some p) : ∃ q, ys[i]? = some (.ref q) ∧ PlA H q p := by
  obtain ⟨x, hx, h1⟩ := Paired.nth (Paired.unmapR (f := pd) h.paired) hp
  obtain ⟨q, h2, h3⟩ := PlAt_tup h1
  exact ⟨q, by rw [hx, h2], h3⟩
def filK (m : Nat → Nat) : List Pl → Kf → List Kf
  | [], k => [k]
  | p :: L, k => (List.range (m p.2)).flatMap fun d => filK m L (kst k p d)
def ext1 (m : Nat → Nat) (p : Pl) (k : Kf) : List Kf := (List.range (m p.2)).map fun d => kst k p d
theorem filK_snoc (m : Nat → Nat) (p : Pl) : ∀ (L : List Pl) (k : Kf), filK m (L ++ [p]) k = (filK m L k).flatMap (ext1 m p)
  | [], k => by
    show ((List.range (m p.2)).flatMap fun d => [kst k p d]) = [k].flatMap (ext1 m p)
    rw [List.flatMap_cons, List.flatMap_nil, List.append_nil, ext1]
    exact List.map_eq_flatMap.symm
  | q :: L, k => by
    rw [List.cons_append, filK, filK, List.flatMap_assoc]
    congr 1
    funext d
    exact filK_snoc m p L (kst k q d)
theorem filK_len (m : Nat → Nat) : ∀ (L : List Pl) (k : Kf), (filK m L k).length = prd m L
  | [], k => rfl
  | p :: L, k => by
    rw [filK, List.length_flatMap, prd]
    have : (List.range (m p.2)).map (fun d => (filK m L (kst k p d)).length) = (List.range (m p.2)).map fun _ => prd m L := by
      congr 1
      funext d
      exact filK_len m L _
    rw [this, List.map_const', List.sum_replicate_nat, List.length_range]
/-- a dict of answers and a function agree on some places -/
def Agr (m : Nat → Nat) (D : List Pl) (k : Kf) (f : Pl → Nat) : Prop := ∀ p ∈ D, k p = some (f p) ∧ f p < m p.2
theorem Agr.put {m : Nat → Nat} {D : List Pl} {k : Kf} {f : Pl → Nat} (h : Agr m D k f) {p : Pl} {d : Nat} (hd : d < m p.2) : Agr m (p :: D) (kst k p d) (st f p d) := fun q hq => by
  by_cases e : q = p
  · subst e
    rw [st_same]
    exact ⟨if_pos rfl, hd⟩
  · rw [st_ne e]
    rcases List.mem_cons.mp hq with h1 | h1
    · exact absurd h1 e
    · have := h q h1
      refine ⟨?_, this.2⟩
      show (if q = p then some d else k q) = _
      rw [if_neg e]
      exact this.1
theorem Agr.sub {m : Nat → Nat} {D E : List Pl} {k : Kf} {f : Pl → Nat} (h : Agr m D k f) (s : ∀ p ∈ E, p ∈ D) : Agr m E k f := fun q hq => h q (s q hq)
theorem filK_agr {m : Nat → Nat} : ∀ (L : List Pl) {D : List Pl} {k : Kf} {f : Pl → Nat}, Agr m D k f → Paired (fun k' f' => ∀ p, p ∈ D ∨ p ∈ L → k' p = some (f' p) ∧ f' p < m p.2) (filK m L k) (fil m L f)
  | [], D, k, f, h => .cons (fun p hp => h p (hp.resolve_right (by simp))) .nil
  | p :: L, D, k, f, h => by
    rw [filK, fil]
    have key : ∀ l : List Nat, (∀ d ∈ l, d < m p.2) → Paired (fun k' f' => ∀ q, q ∈ D ∨ q ∈ p :: L → k' q = some (f' q) ∧ f' q < m q.2) (l.flatMap fun d => filK m L (kst k p d)) (l.flatMap fun d => fil m L (st f p d)) := by
      intro l
      induction l with
      | nil => intro _; exact .nil
      | cons d l ih =>
        intro hl
        rw [List.flatMap_cons, List.flatMap_cons]
        refine Paired.append (Paired.imp (filK_agr L (h.put (hl d (List.mem_cons_self ..)))) fun k' f' hkf q hq => hkf q ?_) (ih fun e he => hl e (List.mem_cons_of_mem _ he))
        rcases hq with hq | hq
        · exact .inl (List.mem_cons_of_mem _ hq)
        · rcases List.mem_cons.mp hq with e | hq
          · exact .inl (by rw [e]; exact List.mem_cons_self ..)
          · exact .inr hq
    exact key _ fun d hd => List.mem_range.mp hd
def KnV (H : Hp) (v : V) (k : Kf) : Prop := ∃ a, v = .ref a ∧ KnAt H a k
theorem keeps_kn : KeepsD KnV := fun _ _ _ _ t ⟨a, h1, h2⟩ => ⟨a, h1, h2.td t⟩
theorem prd_take {m : Nat → Nat} {L : List Pl} (hm : ∀ p ∈ L, 0 < m p.2) : ∀ i, prd m (L.take i) ≤ prd m L := by
  induction L with
  | nil => intro i; simp
  | cons p L ih =>
    intro i
    have h0 := hm p (List.mem_cons_self ..)
    have hp : 0 < prd m L := prd_pos fun q hq => hm q (List.mem_cons_of_mem _ hq)
    cases i with
    | zero => rw [List.take_zero, prd, prd]; exact Nat.mul_pos h0 hp
    | succ i =>
      rw [List.take_succ_cons, prd, prd]
      exact Nat.mul_le_mul_left _ (ih (fun q hq => hm q (List.mem_cons_of_mem _ hq)) i)
theorem ext_len {m : Nat → Nat} {p : Pl} (ks : List Kf) : (ks.flatMap (ext1 m p)).length = ks.length * m p.2 := by
  rw [List.length_flatMap]
  have : ks.map (fun k => (ext1 m p k).length) = ks.map fun _ => m p.2 := by
    congr 1
    funext k
    rw [ext1, List.length_map, List.length_range]
  rw [this, List.map_const', List.sum_replicate_nat]
abbrev sFi : Stmt := top 33
abbrev NFi : List Str := ["_law_sizes", "_law_places", "_law_fixed", "_law_found", "_law_place", "_law_longer", "_law_filling", "_law_d", "_law_more"]
theorem scFi : FnScope NFi ["_law_sizes", "_law_places", "_law_fixed"] (defScope sFi) := ⟨rfl, rfl, rfl, by decide +kernel, rfl, by decide +kernel, by decide +kernel⟩
def spFi : Sp := fun vs H Q _ => ∃ (s l a : Addr) (m : Nat → Nat) (L : List Pl) (k : Kf), vs = [.ref s, .ref l, .ref a] ∧ SzAt H s m ∧ PlL H l L ∧ KnAt H a k ∧ (∀ p ∈ L, p ∈ allPl ∧ 0 < m p.2) ∧ prd m L ≤ 300 ∧
  ∀ r xs H', Same H H' → H' r = some (.lst xs) → Paired (KnV H') xs (filK m L k) → Q (.ref r) H'
theorem ok_fi (D : Def K mg "_law_fillings" sFi ["_law_sizes", "_law_places", "_law_fixed"]) (Z : Bi mg) : Cal P w K mg base 1 "_law_fillings" spFi := by
  refine D.ok scFi (fun vs H Q E h => ?_) (fun f cdv A outer s H vs Q E hr h => ?_)
  · obtain ⟨s, l, a, m, L, k, rfl, _⟩ := h
    rfl
  obtain ⟨sz, l, a, m, L, k, rfl, hsz, ⟨ys, el, ty⟩, hk, hL, hprd, kq⟩ := h
  have hu := hu_of hr
  have hu64 := hr.units
  have hpos : ∀ p ∈ L, 0 < m p.2 := fun p hp => (hL p hp).2
  obtain ⟨ps, eps, hpk, htl⟩ := id hk
  refine ⟨_, (pss_cons (ps_set (i := 3) scFi.nd rfl (Or.inl rfl) (pe_lst (pa_cons (pe_callTy (cr_copyT hu64) (by rfl) Z.dict (by decide +kernel) (pa_cons (pv 2) pa_nil)) pa_nil)))
    (pss_cons (ps_for PassesOwn.never rfl (pi_list (pv 1)) (pg_name (i := 4) scFi.nd rfl (Or.inl rfl)) (pss_cons (ps_set (i := 5) scFi.nd rfl (Or.inl rfl) (pe_lst pa_nil))
    (pss_cons (ps_for PassesOwn.never rfl (pi_list (pv 3)) (pg_name (i := 6) scFi.nd rfl (Or.inl rfl)) (pss_one (ps_for PassesOwn.never rfl (pi_range1 (by rfl) Z.range (pa_cons (pe_it (pv 0) (pe_it (pv 4) pe_int)) pa_nil)) (pg_name (i := 7) scFi.nd rfl (Or.inl rfl)) (pss_cons (ps_set (i := 8) scFi.nd rfl (Or.inl rfl) (pe_callTy (cr_copyT hu64) (by rfl) Z.dict (by decide +kernel) (pa_cons (pv 6) pa_nil)))
    (pss_cons (ps_dput hu (pv 8) (pv 4) (pv 7) rfl)
    (pss_one (ps_expr (pe_bm PySem.F.plainAttrs_list PySem.F.slot_list_append PySem.F.type_list_append mt_append (pv 5) (pa_cons (pv 8) pa_nil)))))))))
    (pss_one (ps_set (i := 3) scFi.nd rfl (Or.inl rfl) (pv 5))))))
    (pss_one (ps_ret (pv 3))))), ?_⟩
  refine ⟨_, rfl, a, ps, rfl, eps, hpk, fun p1 h1 => ⟨(by show 1 ≤ sizeLine; decide), fun p2 h2 => ?_⟩⟩
  generalize d1 : upd H p1 _ = H1 at *
  obtain ⟨s1, e1⟩ := Same.eqn h1 d1
  generalize d2 : upd H1 p2 _ = H2 at *
  obtain ⟨s2, e2⟩ := Same.eqn h2 d2
  have s12 := Same.trans s1 s2
  refine ⟨_, rfl, l, rfl, ⟨ys, SqL.of (s12 _ _ el)⟩, ?_⟩
  have hyl : ys.length = L.length := by rw [ty.length, List.length_map]
  refine for_list (xs := ys) (fun i σ H3 => ∃ r xs x4 x5 x6 x7 x8, σ = [some (.ref sz), some (.ref l), some (.ref a), some (.ref r), x4, x5, x6, x7, x8] ∧ Same H H3 ∧ H3 r = some (.lst xs) ∧ Paired (KnV H3) xs (filK m (L.take i) k))
    ⟨p2, [.ref p1], _, _, _, _, _, rfl, s12, e2, .cons ⟨p1, rfl, ps, s2 _ _ e1, hpk, htl⟩ .nil⟩ (fun i σ H3 hi ⟨r, xs, x4, x5, x6, x7, x8, hσ, s3, er, pt⟩ => SqL.of (s3 _ _ el)) (fun i x σ H3 hx ⟨r, xs, x4, x5, x6, x7, x8, hσ, s3, er, pt⟩ => ?_) (fun σ H3 ⟨r, xs, x4, x5, x6, x7, x8, hσ, s3, er, pt⟩ => ?_)
  · subst hσ
    obtain ⟨p, q, hLi, rfl, hq⟩ := pl_at ty hx
    obtain ⟨hpa, hpm⟩ := hL p (List.mem_of_getElem? hLi)
    have htk : L.take (i + 1) = L.take i ++ [p] := take_one hLi
    have hf : filK m (L.take (i + 1)) k = (filK m (L.take i) k).flatMap (ext1 m p) := by rw [htk, filK_snoc]
    have hlen : ((filK m (L.take i) k).flatMap (ext1 m p)).length ≤ 300 := by
      rw [← hf, filK_len]
      exact Nat.le_trans (prd_take hpos _) hprd
    obtain ⟨xss, ess, hss⟩ := hsz.get hpm
    refine ⟨Nat.zero_le _, fun b hb => ?_⟩
    generalize d4 : upd H3 b _ = H4 at *
    obtain ⟨s4, e4⟩ := Same.eqn hb d4
    have s04 := Same.trans s3 s4
    refine ⟨_, rfl, r, rfl, ⟨xs, SqL.of (s4 _ _ er)⟩, ?_⟩
    generalize hks : filK m (L.take i) k = ks at *
    have hxl : xs.length = ks.length := Paired.len pt
    have hb3 := hb
    refine for_list (xs := xs) (fun j σ H5 => ∃ zs x6 x7 x8, σ = [some (.ref sz), some (.ref l), some (.ref a), some (.ref r), some (.ref q), some (.ref b), x6, x7, x8] ∧ Same H3 H5 ∧ H5 b = some (.lst zs) ∧ Paired (KnV H5) zs ((ks.take j).flatMap (ext1 m p)))
      ⟨[], _, _, _, rfl, s4, e4, .nil⟩ (fun j σ H5 hj ⟨zs, x6, x7, x8, hσ, s5, eb, pz⟩ => SqL.of (s5 _ _ er)) (fun j x σ H5 hxj ⟨zs, x6, x7, x8, hσ, s5, eb, pz⟩ => ?_) (fun σ H5 ⟨zs, x6, x7, x8, hσ, s5, eb, pz⟩ => ?_)
    · subst hσ
      obtain ⟨kj, hkj, a5, rfl, ha5⟩ := Paired.nth' pt hxj
      have htj : ks.take (j + 1) = ks.take j ++ [kj] := take_one hkj
      have s05 := Same.trans s3 s5
      refine ⟨_, rfl, _, rfl, q, _, _, _, rfl, rfl, SqT.of (s05 _ _ hq), rfl, sz, _, _, _, rfl, rfl, SqT.of (s05 _ _ ess), atI_nat hss, ?_⟩
      have hm3 : m p.2 ≤ 300 := by
        have h1 : 1 ≤ ks.length := by
          have := (List.getElem?_eq_some_iff.mp hkj).1
          omega
        rw [ext_len] at hlen
        have : 1 * m p.2 ≤ ks.length * m p.2 := Nat.mul_le_mul_right _ h1
        omega
      refine ⟨_, rfl, by omega, by omega, ?_⟩
      refine for_range (n := m p.2) (fun e σ H6 => ∃ zs x7 x8, σ = [some (.ref sz), some (.ref l), some (.ref a), some (.ref r), some (.ref q), some (.ref b), some (.ref a5), x7, x8] ∧ Same H3 H6 ∧ H6 b = some (.lst zs) ∧ Paired (KnV H6) zs ((ks.take j).flatMap (ext1 m p) ++ (List.range e).map fun d => kst kj p d))
        ⟨zs, _, _, rfl, s5, eb, by rw [List.range_zero, List.map_nil, List.append_nil]; exact pz⟩ (fun e σ H6 he ⟨zs, x7, x8, hσ, s6, eb6, pz6⟩ => ?_) (fun σ H6 ⟨zs, x7, x8, hσ, s6, eb6, pz6⟩ => ?_)
      · subst hσ
        obtain ⟨ps5, eps5, hpk5, htl5⟩ := ha5.same s6
        have hzl : zs.length ≤ 600 := by
          rw [Paired.len pz6, List.length_append, List.length_map, List.length_range, ext_len, List.length_take]
          rw [ext_len] at hlen
          have : min j ks.length * m p.2 ≤ ks.length * m p.2 := Nat.mul_le_mul_right _ (Nat.min_le_right ..)
          omega
        refine ⟨_, rfl, a5, ps5, rfl, eps5, hpk5, fun a7 h7 => ?_⟩
        have hb7 : b ≠ a7 := ne_som eb6 h7
        have h37 : H3 a7 = none := Same.gone s6 h7
        generalize d7 : upd H6 a7 _ = H7 at *
        obtain ⟨s7, e7⟩ := Same.eqn h7 d7
        have s37 := Same.trans s6 s7
        have s07 := Same.trans s3 s37
        refine ⟨_, rfl, _, rfl, _, rfl, a7, _, rfl, PD_put e7 hpk5 (s07 _ _ hq), ?_⟩
        have s8 : Same H6 (upd H7 a7 (.dT ((putP ps5 p (.int (0 + (e : Nat)))).map pkv))) := Same.lst s7 h7
        have e8 : upd H7 a7 (.dT ((putP ps5 p (.int (0 + (e : Nat)))).map pkv)) a7 = some _ := upd_same
        generalize upd H7 a7 (.dT ((putP ps5 p (.int (0 + (e : Nat)))).map pkv)) = H8 at *
        have s38 := Same.trans s6 s8
        have eb8 := s8 _ _ eb6
        refine ⟨_, rfl, ty_l eb8, _, rfl, b, _, _, rfl, rfl, eb8, lt_line (by omega), ?_⟩
        have t9 : TD H8 (upd H8 b (.lst (zs ++ [.ref a7]))) := TD.lst eb8 _
        refine ⟨zs ++ [.ref a7], _, _, rfl, Same.lst s38 hb3, upd_same, ?_⟩
        rw [List.range_succ, List.map_append, ← List.append_assoc]
        refine Paired.snoc (Paired.keepD keeps_kn (TD.trans (TD.of s8) t9) pz6) ⟨a7, rfl, KnAt.td ⟨_, e8, hpk5.put hpa _, ?_⟩ t9⟩
        rw [Int.zero_add]
        exact htl5.put p e
      · subst hσ
        refine ⟨zs, _, _, _, rfl, s6, eb6, ?_⟩
        rw [htj, List.flatMap_append, List.flatMap_cons, List.flatMap_nil, List.append_nil]
        exact pz6
    · subst hσ
      refine ⟨_, rfl, b, zs, _, _, _, _, _, rfl, Same.trans s3 s5, eb, ?_⟩
      rw [hf]
      rw [hxl, List.take_length] at pz
      exact pz
  · subst hσ
    rw [hyl, List.take_length] at pt
    exact ⟨_, rfl, kq r xs H3 s3 er pt⟩

/-! ### count -/
abbrev sCo : Stmt := top 41
abbrev NCo : List Str := ["_law_tree_here", "_law_branch"]
theorem scCo : FnScope NCo ["_law_tree_here"] (defScope sCo) := ⟨rfl, rfl, rfl, by decide +kernel, rfl, by decide +kernel, by decide +kernel⟩
def spCo (j : Nat) : Sp := fun vs H Q _ => ∃ (v : V) (t : Tr), vs = [v] ∧ TrAt H v t ∧ nd t ≤ 2000 ∧ dp t < j ∧ ∀ H', Same H H' → Q (.int (nd t : Nat)) H'
def InAt (H : Hp) (v : V) (n : Nat) : Prop := v = .int (n : Int)
theorem keeps_in : Keeps InAt := fun _ _ _ _ _ h => h
theorem in_map {H : Hp} : ∀ {vs : List V} {ns : List Nat}, Paired (InAt H) vs ns → vs = (ns.map fun (n : Nat) => (n : Int)).map V.int
  | _, _, .nil => rfl
  | _, _, .cons a t => by rw [List.map_cons, List.map_cons, ← in_map t]; exact congrArg (· :: _) a
theorem nds_sum : ∀ bs : List Tr, ((bs.map nd).map fun (n : Nat) => (n : Int)).sum = (nds bs : Int)
  | [] => rfl
  | b :: bs => by rw [List.map_cons, List.map_cons, List.sum_cons, nds_sum bs, nds]; omega
theorem ok_co (D : Def K mg "_law_count" sCo ["_law_tree_here"]) (Z : Bi mg) : ∀ j, Cal P w K mg base (0 + j) "_law_count" (spCo j) := by
  refine D.recur spCo (fun vs H Q E ⟨v, t, _, _, _, h, _⟩ => nomatch h) fun j C__law_count => ?_
  refine D.ok scCo (fun vs H Q E h => ?_) (fun f cdv A outer s H vs Q E hr h => ?_)
  · obtain ⟨v, t, rfl, _⟩ := h
    rfl
  obtain ⟨v, t, rfl, ht, hn, hj, kq⟩ := h
  refine ⟨_, (pss_one (ps_ret (pe_op op_add pe_int (pe_callB (cr_sum rfl) (by rfl) Z.sum (by decide +kernel) (pa_cons (pe_ifExp (pt_cmpR op_eq (pe_it (pv 0) pe_int) pe_str (nomark _)) (pe_lc (own := [("_law_branch", 1)]) (g := gName 1) (tt := tYes) rfl scCo.nd (pi_tup (pe_it (pv 0) pe_int)) (blkOk_by (own := [("_law_branch", 1)]) (N := NCo) (sc := defScope sCo) (by decide +kernel)) (fun _ _ _ _ _ => (pg_name (i := 1) scCo.nd rfl (Or.inl rfl))) (fun _ _ _ _ _ => by exact pts_nil) (fun _ _ _ _ _ => by exact (pe_cal C__law_count (hr.mono (by omega)) (pa_cons (pv 1) pa_nil)))) (pe_lst pa_nil)) pa_nil))))), ?_⟩
  cases t with
  | fin u =>
    obtain ⟨p, x, rfl, e, _⟩ := ht.fin
    refine ⟨_, rfl, p, _, _, _, rfl, rfl, SqT.of e, rfl, rfl, _, rfl, itF dec_end_ask ?_⟩
    refine ⟨Nat.zero_le _, fun a ha => ⟨a, [], rfl, SqL.of upd_same, 1, _, rfl, rfl, ?_⟩⟩
    exact kq _ (Same.new ha _)
  | ask p bs =>
    obtain ⟨p1, r1, b1, xs, rfl, e, er, eb, tb⟩ := ht.ask
    have hxs : xs.length = bs.length := by rw [tb.length, List.length_map]
    have hndb : nd (.ask p bs) = 1 + nds bs := rfl
    have hdpb : dp (.ask p bs) = 1 + dps bs := rfl
    have hbn := nds_len bs
    refine ⟨_, rfl, p1, _, _, _, rfl, rfl, SqT.of e, rfl, rfl, _, rfl, itT (dec_same _) ?_⟩
    refine ⟨_, rfl, p1, _, _, _, rfl, rfl, SqT.of e, rfl, b1, rfl, ⟨_, SqT.of eb⟩, fun D0 hD0 => ?_⟩
    refine lc_tupM (F := InAt) keeps_in.d (bs.map nd) (by rw [List.length_map, hxs]) (by omega) hD0 eb (fun i x H5 z hx hz s5 Q5 hq5 => ⟨rfl, ?_⟩) (fun H5 acc s5 eD hacc => ?_)
    · obtain ⟨b, hb, hxb⟩ := Paired.nth' (of_tsA tb) hx
      rw [List.getElem?_map, hb] at hz
      have hz : nd b = z := Option.some.inj hz
      have hm := List.mem_of_getElem? hb
      have h1 := nds_mem hm
      have h2 := dps_mem hm
      exact ⟨_, rfl, x, b, rfl, Ts.keep (TK.of s5) _ _ hxb, by omega, by omega, fun H6 s6 => hq5 _ H6 s6 (by rw [← hz]; rfl)⟩
    · have hac := in_map hacc
      rw [hac] at eD
      refine ⟨D0, _, rfl, SqL.of eD, 1, _, rfl, rfl, ?_⟩
      rw [nds_sum]
      have h := kq H5 s5
      rw [hndb] at h
      have e1 : ((1 + nds bs : Nat) : Int) = 1 + (nds bs : Int) := by omega
      rw [e1] at h
      exact h

/-! ### ends, the law's own -/
abbrev sEd : Stmt := top 39
abbrev NEd : List Str := ["_law_tree_here", "_law_known", "_law_found", "_law_d", "_law_branch"]
theorem scEd : FnScope NEd ["_law_tree_here", "_law_known"] (defScope sEd) := ⟨rfl, rfl, rfl, by decide +kernel, rfl, by decide +kernel, by decide +kernel⟩
def spEd (j : Nat) : Sp := fun vs H Q _ => ∃ (v : V) (l : Addr) (ys : List V) (t : Tr) (k : Kn) (m : Nat → Nat) (L : List Pl), vs = [v, .ref l] ∧ TrAt H v t ∧ H l = some (.lst ys) ∧ TsA H ys (k.map kd) ∧ Wf m L t ∧ L.Nodup ∧ (∀ p ∈ L, 0 < m p.2) ∧ prd m L ≤ 300 ∧ k.length + j ≤ 100 ∧ dp t < j ∧
  ∀ r zs H', Same H H' → H' r = some (.lst zs) → TsA H' zs ((en t k).map eD) → Q (.ref r) H'
theorem ens_snoc (p : Pl) (k : Kn) : ∀ (bs : List Tr) (b : Tr) (d : Nat), ens p (bs ++ [b]) d k = ens p bs d k ++ en b (k ++ [(p, d + bs.length)])
  | [], b, d => by
    show en b (k ++ [(p, d)]) ++ [] = [] ++ en b (k ++ [(p, d + 0)])
    rw [List.append_nil]; rfl
  | c :: bs, b, d => by
    rw [List.cons_append, ens, ens, ens_snoc p k bs b (d + 1), List.append_assoc, List.length_cons]
    have : d + 1 + bs.length = d + (bs.length + 1) := by omega
    rw [this]
theorem ok_ed (D : Def K mg "_law_ends" sEd ["_law_tree_here", "_law_known"]) (Z : Bi mg) : ∀ j, Cal P w K mg base (0 + j) "_law_ends" (spEd j) := by
  refine D.recur spEd (fun vs H Q E ⟨v, l, ys, t, k, m, L, _, _, _, _, _, _, _, _, _, h, _⟩ => nomatch h) fun j C__law_ends => ?_
  refine D.ok scEd (fun vs H Q E h => ?_) (fun f cdv A outer s H vs Q E hr h => ?_)
  · obtain ⟨v, l, ys, t, k, m, L, rfl, _⟩ := h
    rfl
  obtain ⟨v, l, ys, t, k, m, L, rfl, ht, el, ty, hw, hnd, hpos, hprd, hkl, hj, kq⟩ := h
  have hu64 := hr.units
  refine ⟨_, (pss_cons (ps_if (pt_cmpR op_eq (pe_it (pv 0) pe_int) pe_str (nomark _)) (pss_one (ps_ret (pe_lst (pa_cons (pe_tup (pa_cons (pe_callTy call_tuple_of (by rfl) Z.tuple (by decide +kernel) (pa_cons (pe_callB (cr_sortedD (enc := kd) hu64) (by rfl) Z.sorted (by decide +kernel) (pa_cons (pv 1) pa_nil)) pa_nil)) (pa_cons (pe_it (pv 0) pe_int) pa_nil))) pa_nil)))) pss_nil)
    (pss_cons (ps_set (i := 2) scEd.nd rfl (Or.inl rfl) (pe_lst pa_nil))
    (pss_cons (ps_for PassesOwn.never rfl (pi_enumT (by rfl) Z.enumerate (pa_cons (pe_it (pv 0) pe_int) pa_nil)) (pg_tup rfl (pgs_cons (pg_name (i := 3) scEd.nd rfl (Or.inl rfl)) (pgs_cons (pg_name (i := 4) scEd.nd rfl (Or.inl rfl)) pgs_nil))) (pss_one (ps_set (i := 2) scEd.nd rfl (Or.inl rfl) (pe_op op_cat (pv 2) (pe_cal C__law_ends (hr.mono (by omega)) (pa_cons (pv 4) (pa_cons (pe_op op_cat (pv 1) (pe_lst (pa_cons (pe_tup (pa_cons (pe_it (pv 0) pe_int) (pa_cons (pv 3) pa_nil))) pa_nil))) pa_nil)))))))
    (pss_one (ps_ret (pv 2)))))), ?_⟩
  cases t with
  | fin u =>
    obtain ⟨p, x, rfl, e, hx⟩ := ht.fin
    refine ⟨_, rfl, p, _, _, _, rfl, rfl, SqT.of e, rfl, rfl, _, rfl, itT (dec_same _) ?_⟩
    refine ⟨_, rfl, l, ys, k, rfl, .inl (SqL.of el), ty, kd_alike k, kd_sortable k, fun b _ => kd_depth b, fun a7 ys7 h7 ty7 => ?_⟩
    generalize d7 : upd H a7 _ = H7 at *
    obtain ⟨s7, e7⟩ := Same.eqn h7 d7
    refine ⟨a7, _, rfl, .inl ⟨SqL.of e7, fun a8 h8 => ?_⟩⟩
    generalize d8 : upd H7 a8 _ = H8 at *
    obtain ⟨s8, e8⟩ := Same.eqn h8 d8
    have s08 := Same.trans s7 s8
    refine ⟨_, rfl, p, _, _, _, rfl, rfl, SqT.of (s08 _ _ e), rfl, (by show 2 ≤ sizeLine; decide), fun a9 h9 => ⟨(by show 1 ≤ sizeLine; decide), fun a10 h10 => ?_⟩⟩
    generalize d9 : upd H8 a9 _ = H9 at *
    obtain ⟨s9, e9⟩ := Same.eqn h9 d9
    have s10 := Same.new h10 (.lst [V.ref a9])
    have s810 := Same.trans s9 s10
    refine kq a10 [.ref a9] _ (Same.trans s08 s810) upd_same (.cons (.tup (s10 _ _ e9) (.cons (.tup (s810 _ _ e8) (TsA.keep (TK.of (Same.trans s08 s810)) _ _ ty7)) (.cons (Ts.keep (TK.of (Same.trans s08 s810)) _ _ hx) .nil))) .nil)
  | ask p bs =>
    obtain ⟨p1, r1, b1, xs, rfl, e, er, eb, tb⟩ := ht.ask
    have hxs : xs.length = bs.length := by rw [tb.length, List.length_map]
    have hdpb : dp (.ask p bs) = 1 + dps bs := rfl
    cases hw with
    | ask hp hl hb =>
    have hprd1 := prd_rem (m := m) hnd hp
    have hprd2 : 0 < prd m (rem L p) := prd_pos fun q hq => hpos q (rem_sub hq)
    have hpp := hpos p hp
    have hbl : bs.length ≤ 300 := by
      have : m p.2 * 1 ≤ m p.2 * prd m (rem L p) := Nat.mul_le_mul_left _ hprd2
      omega
    have hprd3 : prd m (rem L p) ≤ 300 := by
      have : 1 * prd m (rem L p) ≤ m p.2 * prd m (rem L p) := Nat.mul_le_mul_right _ hpp
      omega
    have hrn : (rem L p).Nodup := rem_nodup hnd
    have hrp : ∀ q ∈ rem L p, 0 < m q.2 := fun q hq => hpos q (rem_sub hq)
    have henl : ∀ b ∈ bs, ∀ k : Kn, (en b k).length ≤ 300 := fun b hb' k => Nat.le_trans (en_len (hb b hb') hrn hrp k) hprd3
    refine ⟨_, rfl, p1, _, _, _, rfl, rfl, SqT.of e, rfl, rfl, _, rfl, itF dec_ask_end ?_⟩
    refine ⟨Nat.zero_le _, fun r0 hr0 => ?_⟩
    generalize d1 : upd H r0 _ = H1 at *
    obtain ⟨s1, e1⟩ := Same.eqn hr0 d1
    refine ⟨_, rfl, p1, _, _, _, rfl, rfl, SqT.of (s1 _ _ e), rfl, b1, xs, rfl, s1 _ _ eb, ?_⟩
    refine for_it walk_enumT (fun i σ H2 => ∃ r zs x3 x4, σ = [some (.ref p1), some (.ref l), some (.ref r), x3, x4] ∧ Same H H2 ∧ H2 r = some (.lst zs) ∧ TsA H2 zs ((ens p (bs.take i) 0 k).map eD)) ⟨r0, [], _, _, rfl, s1, e1, .nil⟩ (fun i σ H2 hi ⟨r, zs, x3, x4, hσ, s2, er2, tz⟩ => s2 _ _ eb) (fun i x σ H2 H2' hi ⟨r, zs, x3, x4, hσ, s2, er2, tz⟩ ⟨T, y1, y2, hx, hT, hH, hy1, hy2⟩ => ?_) (fun σ H2 ⟨r, zs, x3, x4, hσ, s2, er2, tz⟩ => ?_)
    · subst hσ
      subst hx
      obtain ⟨s3, e3⟩ := Same.eqn hT hH.symm
      have hy1 := (Option.some.inj hy1).symm
      subst hy1
      have hib : i < bs.length := by rw [← hxs]; exact hi
      have hbi : bs[i]? = some bs[i] := List.getElem?_eq_getElem hib
      have hbm := List.getElem_mem hib
      obtain ⟨y2', hy2', htb⟩ := TrAt.kid tb hbi
      have hy2 : xs[i]? = some y2 := hy2
      rw [hy2'] at hy2
      have hy2 := Option.some.inj hy2
      subst hy2
      have hdb := dps_mem hbm
      have s03 := Same.trans s2 s3
      refine ⟨T, _, rfl, SqT.of e3, rfl, _, _, rfl, _, _, rfl, rfl, ?_⟩
      refine ⟨_, rfl, _, rfl, _, rfl, _, rfl, p1, _, _, _, rfl, rfl, SqT.of (s03 _ _ e), rfl, _, rfl, (by show 2 ≤ sizeLine; decide), fun a8 h8 => ⟨(by show 1 ≤ sizeLine; decide), fun a9 h9 => ?_⟩⟩
      generalize d8 : upd H2' a8 _ = H8 at *
      obtain ⟨s8, e8⟩ := Same.eqn h8 d8
      generalize d9 : upd H8 a9 _ = H9 at *
      obtain ⟨s9, e9⟩ := Same.eqn h9 d9
      have s09 := Same.trans s03 (Same.trans s8 s9)
      have hyl : ys.length = k.length := by rw [ty.length, List.length_map]
      refine ⟨l, a9, ys, _, rfl, rfl, s09 _ _ el, e9, le_line (by simp; omega), fun a10 h10 => ?_⟩
      generalize d10 : upd H9 a10 _ = H10 at *
      obtain ⟨s10, e10⟩ := Same.eqn h10 d10
      have s010 := Same.trans s09 s10
      have s810 := Same.trans s9 s10
      refine ⟨y2', a10, ys ++ [.ref a8], bs[i], k ++ [(p, i)], m, rem L p, rfl, Ts.keep (TK.of s010) _ _ htb, e10, ?_, hb _ hbm, hrn, hrp, hprd3, by rw [List.length_append, List.length_singleton]; omega, by omega, fun r5 zs5 H5 s5 er5 tz5 => ?_⟩
      · rw [List.map_append]
        exact TsA.append (TsA.keep (TK.of s010) _ _ ty) (.cons (.tup (s810 _ _ e8) (.cons (PlAt_mk (s010 _ _ er)) (.cons (.int _) .nil))) .nil)
      · have s35 := Same.trans s3 (Same.trans (Same.trans s8 s810) s5)
        have hz1 : zs.length ≤ 90000 := by
          rw [tz.length, List.length_map]
          have h1 := ens_len (c := 300) (p := p) (k := k) (bs := bs.take i) (d := 0) fun b hb' k => henl b (List.mem_of_mem_take hb') k
          have h2 : (bs.take i).length ≤ 300 := by rw [List.length_take]; omega
          have h3 : (bs.take i).length * 300 ≤ 300 * 300 := Nat.mul_le_mul_right _ h2
          omega
        have hz5 : zs5.length ≤ 300 := by
          rw [tz5.length, List.length_map]
          exact henl _ hbm _
        refine ⟨r, r5, zs, zs5, rfl, rfl, s35 _ _ er2, er5, le_line (by omega), fun a11 h11 => ?_⟩
        have s11 := Same.new h11 (.lst (zs ++ zs5))
        refine ⟨a11, zs ++ zs5, _, _, rfl, Same.trans s2 (Same.trans s35 s11), upd_same, ?_⟩
        rw [take_one hbi, ens_snoc, List.map_append]
        refine TsA.append (TsA.keep (TK.of (Same.trans s35 s11)) _ _ tz) ?_
        have h1 : 0 + (bs.take i).length = i := by rw [List.length_take]; omega
        rw [h1]
        exact TsA.keep (TK.of s11) _ _ tz5
    · subst hσ
      rw [hxs, List.take_length] at tz
      exact ⟨_, rfl, kq r zs H2 s2 er2 tz⟩
end K16

set_option Elab.async false
set_option linter.all false
set_option maxRecDepth 100000
set_option maxHeartbeats 4000000
/-! The law's lowest. -/
namespace K16
open PySem PySem.Spec PyProof.Rows L2
open Classical
variable {P : Program} {w : World} {K : PySem.W.Frag} {mg : Str → Option Value} {base : Heap}

theorem depth_list (xs : List PyData) : (PyData.list xs).depth = PyData.depthAll xs + 1 := rfl
theorem depth_tuple (xs : List PyData) : (PyData.tuple xs).depth = PyData.depthAll xs + 1 := rfl
theorem shaped_list {xs : List PyData} (hn : ∀ x ∈ xs, nice x = true) (hd : ∀ x ∈ xs, x.depth ≤ 50) : SeqAt.shaped (.list xs) = true := by
  refine nice_shaped (show niceAll xs = true from niceAll_mem.mpr hn) ?_
  rw [depth_list]
  have := depthAll_le hd
  omega
theorem eqv_list {xs ys : List PyData} (hx : ∀ x ∈ xs, nice x = true) (hy : ∀ x ∈ ys, nice x = true) : PyData.eqv (.list xs) (.list ys) = decide (xs = ys) := by
  have h := nice_eqv (.list xs) (.list ys) (niceAll_mem.mpr hx) (niceAll_mem.mpr hy)
  cases e : PyData.eqv (.list xs) (.list ys) with
  | true => exact (decide_eq_true (PyData.list.inj (h.mp e))).symm
  | false =>
    refine (decide_eq_false fun z => ?_).symm
    rw [z] at h
    have := h.mpr rfl
    rw [z, this] at e
    cases e
theorem shaped_nil : SeqAt.shaped (.list []) = true := by decide +kernel
theorem nice_pds {L : List Pl} (h : ∀ p ∈ L, PlOk p) : ∀ x ∈ L.map pd, nice x = true := fun x hx => by
  obtain ⟨p, hp, rfl⟩ := List.mem_map.mp hx
  exact nice_pd (h p hp)
theorem shaped_pds {L : List Pl} (h : ∀ p ∈ L, PlOk p) : SeqAt.shaped (.list (L.map pd)) = true := shaped_list (nice_pds h) fun x hx => by
  obtain ⟨p, hp, rfl⟩ := List.mem_map.mp hx
  rw [depth_pd]
  omega
theorem eqv_pds_nil {L : List Pl} (h : ∀ p ∈ L, PlOk p) : PyData.eqv (.list (L.map pd)) (.list []) = decide (L = []) := by
  rw [eqv_list (nice_pds h) (fun x hx => absurd hx (by simp))]
  cases L with
  | nil => rfl
  | cons p L => rfl
/-- trees of one kind -/
def BsOk (bs : List Tr) : Prop := ∀ b ∈ bs, TrOk b ∧ dp b ≤ 20
theorem BsOk.nice {bs : List Tr} (h : BsOk bs) : ∀ x ∈ bs.map tr, nice x = true := fun x hx => by
  obtain ⟨b, hb, rfl⟩ := List.mem_map.mp hx
  exact nice_tr b (h b hb).1
theorem BsOk.depth {bs : List Tr} (h : BsOk bs) : ∀ x ∈ bs.map tr, x.depth ≤ 50 := fun x hx => by
  obtain ⟨b, hb, rfl⟩ := List.mem_map.mp hx
  have := depth_tr b
  have := (h b hb).2
  omega
theorem rep_map (b : Tr) (n : Nat) : (List.replicate n b).map tr = List.replicate n (tr b) := List.map_replicate
theorem BsOk.rep {b : Tr} (h : TrOk b ∧ dp b ≤ 20) (n : Nat) : BsOk (List.replicate n b) := fun x hx => by
  rw [List.eq_of_mem_replicate hx]
  exact h
theorem eqv_same {bs : List Tr} (h : BsOk bs) (hne : bs ≠ []) : PyData.eqv (.list (bs.map tr)) (.list ((List.replicate bs.length (bs.headD default)).map tr)) = decide (∀ b ∈ bs, b = bs.headD default) := by
  have hm := headD_mem (a := default) hne
  rw [eqv_list h.nice (BsOk.rep (h _ hm) _).nice]
  have : bs.map tr = (List.replicate bs.length (bs.headD default)).map tr ↔ ∀ b ∈ bs, b = bs.headD default := by
    constructor
    · intro e b hb
      have h1 : tr b ∈ (List.replicate bs.length (bs.headD default)).map tr := by rw [← e]; exact List.mem_map_of_mem hb
      rw [rep_map] at h1
      exact tr_inj b _ (List.eq_of_mem_replicate h1)
    · intro e
      congr 1
      exact List.eq_replicate_iff.mpr ⟨rfl, e⟩
  by_cases h2 : ∀ b ∈ bs, b = bs.headD default
  · rw [decide_eq_true h2, decide_eq_true (this.mpr h2)]
  · rw [decide_eq_false h2, decide_eq_false (fun z => h2 (this.mp z))]
theorem flat_rep (x : V) (n : Nat) : (List.replicate n [x]).flatten = List.replicate n x := List.flatten_replicate_singleton
theorem paired_rep {F : V → Tr → Prop} {x : V} {b : Tr} (h : F x b) : ∀ n, Paired F (List.replicate n x) (List.replicate n b)
  | 0 => .nil
  | n + 1 => .cons h (paired_rep h n)
abbrev sLo : Stmt := top 34
abbrev NLo : List Str := ["_law_sizes", "_law_places", "_law_tree_here", "_law_filling", "_law_branches", "_law_d", "_law_more", "_law_is_one"]
theorem scLo : FnScope NLo ["_law_sizes", "_law_places", "_law_tree_here", "_law_filling"] (defScope sLo) := ⟨rfl, rfl, rfl, by decide +kernel, rfl, by decide +kernel, by decide +kernel⟩
def spLo (j : Nat) : Sp := fun vs H Q _ => ∃ (s l a : Addr) (v : V) (m : Nat → Nat) (L D L0 : List Pl) (t : Tr) (k : Kf) (r : Pl → Nat), vs = [.ref s, .ref l, v, .ref a] ∧ SzAt H s m ∧ PlL H l L ∧ TrAt H v t ∧ KnAt H a k ∧ Menu m L0 ∧ Wf m L0 t ∧ L.Nodup ∧ (∀ p ∈ L, p ∈ L0) ∧
  Agr m D k r ∧ (∀ p ∈ L0, p ∈ D ∨ p ∈ L) ∧ L.length < j ∧ ∀ r' H', Same H H' → TrAt H' r' (low m L (ev t) r) → Q r' H'
theorem ok_lo (D : Def K mg "_law_lowest" sLo ["_law_sizes", "_law_places", "_law_tree_here", "_law_filling"]) (Z : Bi mg) (C__law_value : Cal P w K mg base 1 "_law_value" spVa) : ∀ j, Cal P w K mg base (1 + j) "_law_lowest" (spLo j) := by
  refine D.recur spLo (fun vs H Q E ⟨s, l, a, v, m, L, D, L0, t, k, r, _, _, _, _, _, _, _, _, _, _, _, h, _⟩ => nomatch h) fun j C__law_lowest => ?_
  refine D.ok scLo (fun vs H Q E h => ?_) (fun f cdv A outer s H vs Q E hr h => ?_)
  · obtain ⟨s, l, a, v, m, L, D, L0, t, k, r, rfl, _⟩ := h
    rfl
  obtain ⟨sz, l, a, v, m, L, D, L0, t, k, r, rfl, hsz, hl, ht, hk, M, hw, hnd, hL, hag, hcov, hj, kq⟩ := h
  have hu := hu_of hr
  have hu64 := hr.units
  obtain ⟨ys, el, ty⟩ := id hl
  have hpl : ∀ p ∈ L, PlOk p := fun p hp => M.plOk p (hL p hp)
  refine ⟨_, (pss_cons (ps_if (pt_cmpR (op_eqD hu64) (pv 1) (pe_lst pa_nil) (nomark _)) (pss_one (ps_ret (pe_tup (pa_cons pe_str (pa_cons (pe_cal C__law_value (hr.mono (by omega)) (pa_cons (pv 2) (pa_cons (pv 3) pa_nil))) pa_nil))))) pss_nil)
    (pss_cons (ps_set (i := 4) scLo.nd rfl (Or.inl rfl) (pe_lst pa_nil))
    (pss_cons (ps_for PassesOwn.never rfl (pi_range1 (by rfl) Z.range (pa_cons (pe_it (pv 0) (pe_it (pe_il (pv 1) pe_int) pe_int)) pa_nil)) (pg_name (i := 5) scLo.nd rfl (Or.inl rfl)) (pss_cons (ps_set (i := 6) scLo.nd rfl (Or.inl rfl) (pe_callTy (cr_copyT hu64) (by rfl) Z.dict (by decide +kernel) (pa_cons (pv 3) pa_nil)))
    (pss_cons (ps_dput hu (pv 6) (pe_il (pv 1) pe_int) (pv 5) rfl)
    (pss_one (ps_expr (pe_bm PySem.F.plainAttrs_list PySem.F.slot_list_append PySem.F.type_list_append mt_append (pv 4) (pa_cons (pe_cal C__law_lowest (hr.mono (by omega)) (pa_cons (pv 0) (pa_cons (pe_slice sl_list (pv 1) (po_some pe_int) po_none) (pa_cons (pv 2) (pa_cons (pv 6) pa_nil))))) pa_nil)))))))
    (pss_cons (ps_set (i := 7) scLo.nd rfl (Or.inl rfl) (pe_cmpR (op_eqD hu64) (pv 4) (pe_op op_rep (pe_lst (pa_cons (pe_il (pv 4) pe_int) pa_nil)) (pe_callB call_len_seq (by rfl) Z.len PySem.boot_len (pa_cons (pv 4) pa_nil))) (nomark _)))
    (pss_one (ps_ret (pe_ifExp (pt_val (pv 7)) (pe_il (pv 4) pe_int) (pe_tup (pa_cons pe_str (pa_cons (pe_il (pv 1) pe_int) (pa_cons (pe_callTy call_tuple_of (by rfl) Z.tuple (by decide +kernel) (pa_cons (pv 4) pa_nil)) pa_nil))))))))))), ?_⟩
  refine ⟨_, rfl, Nat.zero_le _, fun a1 h1 => ?_⟩
  have s1 := Same.new h1 (.lst [])
  refine ⟨.list (L.map pd), .list [], .lst (SqL.of (s1 _ _ el)) (TsA.dp _ _ (TsA.keep (TK.of s1) _ _ ty)), .lst (SqL.of upd_same) .nil, shaped_pds hpl, shaped_nil, _, rfl, ?_⟩
  rw [eqv_pds_nil hpl]
  generalize upd H a1 (.lst []) = H1 at *
  cases L with
  | nil =>
    refine itT (decide_eq_true rfl) ?_
    have hD : ∀ p ∈ L0, p ∈ D := fun p hp => (hcov p hp).resolve_right (by simp)
    refine ⟨_, rfl, _, rfl, v, a, t, m, L0, k, r, rfl, Ts.keep (TK.of s1) _ _ ht, hk.same s1, hw, fun p hp => (hag p (hD p hp)).1, fun p hp => (hag p (hD p hp)).2, fun x hx => ⟨(by show 2 ≤ sizeLine; decide), fun a2 ha2 => ?_⟩⟩
    refine kq _ _ (Same.trans s1 (Same.new ha2 _)) ?_
    exact .tup upd_same (.cons (.str _) (.cons (Ts.keep (TK.new ha2 _) _ _ hx) .nil))
  | cons p L =>
    refine itF (decide_eq_false (fun z => nomatch z)) ?_
    have hp0 := hL p (List.mem_cons_self ..)
    have hpm := M.pos p hp0
    have hp3 := M.size p hp0
    obtain ⟨q, hq0, hq⟩ := pl_of (i := 0) (p := p) ty rfl
    obtain ⟨xss, ess, hss⟩ := hsz.get hpm
    obtain ⟨hpn, hndL⟩ := List.nodup_cons.mp hnd
    refine ⟨Nat.zero_le _, fun b hb => ?_⟩
    generalize d2 : upd H1 b _ = H2 at *
    obtain ⟨s2, e2⟩ := Same.eqn hb d2
    have s12 := Same.trans s1 s2
    have hb0 := Same.gone s1 hb
    refine ⟨_, rfl, _, rfl, l, _, _, _, rfl, rfl, SqL.of (s12 _ _ el), atI_nat (j := 0) hq0, q, _, _, _, rfl, rfl, SqT.of (s12 _ _ hq), rfl, sz, _, _, _, rfl, rfl, SqT.of (s12 _ _ ess), atI_nat hss, ?_⟩
    refine ⟨_, rfl, by omega, by omega, ?_⟩
    let bsOf : Nat → List Tr := fun e => (List.range e).map fun d => low m L (ev t) (st r p d)
    refine for_range (n := m p.2) (fun e σ H3 => ∃ bs x5 x6 x7, σ = [some (.ref sz), some (.ref l), some v, some (.ref a), some (.ref b), x5, x6, x7] ∧ Same H H3 ∧ H3 b = some (.lst bs) ∧ Paired (TrAt H3) bs (bsOf e)) ⟨[], _, _, _, rfl, s12, e2, .nil⟩ (fun e σ H3 he ⟨bs, x5, x6, x7, hσ, s3, eb, pt⟩ => ?_) (fun σ H3 ⟨bs, x5, x6, x7, hσ, s3, eb, pt⟩ => ?_)
    · subst hσ
      rw [Int.zero_add]
      obtain ⟨ps, eps, hpk, htl⟩ := hk.same s3
      refine ⟨_, rfl, a, ps, rfl, eps, hpk, fun a7 h7 => ?_⟩
      generalize d7 : upd H3 a7 _ = H7 at *
      obtain ⟨s7, e7⟩ := Same.eqn h7 d7
      have s07 := Same.trans s3 s7
      refine ⟨_, rfl, _, rfl, _, rfl, l, _, _, _, rfl, rfl, SqL.of (s07 _ _ el), atI_nat (j := 0) hq0, a7, _, rfl, PD_put e7 hpk (s07 _ _ hq), ?_⟩
      have s8 : Same H3 (upd H7 a7 (.dT ((putP ps p (.int (e : Int))).map pkv))) := Same.lst s7 h7
      have e8 : upd H7 a7 (.dT ((putP ps p (.int (e : Int))).map pkv)) a7 = some _ := upd_same
      generalize upd H7 a7 (.dT ((putP ps p (.int (e : Int))).map pkv)) = H8 at *
      have hk8 : KnAt H8 a7 (kst k p e) := ⟨_, e8, hpk.put (M.ok p hp0) _, htl.put p e⟩
      have s08 := Same.trans s3 s8
      have eb8 := s8 _ _ eb
      refine ⟨_, rfl, ty_l eb8, _, rfl, _, rfl, 1, rfl, l, ys, rfl, SqL.of (s08 _ _ el), fun a9 h9 => ?_⟩
      have ecut : cutV ys (some 1) none = ys.drop 1 := cut_from (k := 1) (by rw [ty.length]; simp)
      rw [ecut]
      generalize d9 : upd H8 a9 _ = H9 at *
      obtain ⟨s9, e9⟩ := Same.eqn h9 d9
      have s09 := Same.trans s08 s9
      have hty9 : TsA H9 (ys.drop 1) (L.map pd) := by
        cases ty with
        | cons _ ty' => exact TsA.keep (TK.of s09) _ _ ty'
      refine ⟨_, rfl, _, rfl, sz, a9, a7, v, m, L, p :: D, L0, t, kst k p e, st r p e, rfl, hsz.tk (TK.of s09), ⟨_, e9, hty9⟩, Ts.keep (TK.of s09) _ _ ht, hk8.same s9, M, hw, hndL, fun q hq => hL q (List.mem_cons_of_mem _ hq), hag.put he, fun q hq => ?_, by rw [List.length_cons] at hj; omega, fun r5 H5 s5 hr5 => ?_⟩
      · rcases hcov q hq with h | h
        · exact .inl (List.mem_cons_of_mem _ h)
        · rcases List.mem_cons.mp h with h | h
          · exact .inl (by rw [h]; exact List.mem_cons_self ..)
          · exact .inr h
      · have s35 := Same.trans s8 (Same.trans s9 s5)
        have eb5 := s35 _ _ eb
        have hbl : bs.length = e := by rw [Paired.len pt]; simp [bsOf]
        refine ⟨b, _, _, rfl, rfl, eb5, lt_line (by omega), ?_⟩
        have k6 : TK H5 (upd H5 b (.lst (bs ++ [r5]))) := TK.lst eb5 _
        refine ⟨_, _, _, _, rfl, Same.lst (Same.trans s3 s35) hb0, upd_same, ?_⟩
        show Paired _ _ ((List.range (e + 1)).map _)
        rw [List.range_succ, List.map_append]
        exact Paired.snoc (Paired.keep (F := TrAt) keeps_tr (TK.trans (TK.of s35) k6) pt) (Ts.keep k6 _ _ hr5)
    · subst hσ
      have hbsl : (bsOf (m p.2)).length = m p.2 := by simp [bsOf]
      have hbl : bs.length = m p.2 := by rw [Paired.len pt, hbsl]
      have hne : bsOf (m p.2) ≠ [] := fun z => by rw [z] at hbsl; simp at hbsl; omega
      have hlow : low m (p :: L) (ev t) r = mk p (bsOf (m p.2)) := rfl
      have hok : BsOk (bsOf (m p.2)) := fun b hb => by
        obtain ⟨d, _, rfl⟩ := List.mem_map.mp hb
        have hwl : Wf m L0 (low m L (ev t) (st r p d)) := (low_wf hndL fun q hq => M.pos q (hL q (List.mem_cons_of_mem _ hq))).mono fun x hx => hL x (List.mem_cons_of_mem _ hx)
        have := hwl.dep
        have := M.len
        exact ⟨M.trOk hwl, by omega⟩
      rw [hlow] at kq
      generalize bsOf (m p.2) = BS at *
      obtain ⟨b0, BS', rfl⟩ : ∃ b0 BS', BS = b0 :: BS' := by cases BS with
        | nil => exact absurd rfl hne
        | cons b0 BS' => exact ⟨_, _, rfl⟩
      obtain ⟨x0, hx0, htx0⟩ := Paired.nth pt (i := 0) rfl
      refine ⟨_, rfl, _, rfl, b, _, _, _, rfl, rfl, SqL.of eb, atI_nat (j := 0) hx0, (by show 1 ≤ sizeLine; decide), fun a6 h6 => ?_⟩
      generalize d6 : upd H3 a6 _ = H6 at *
      obtain ⟨s6, e6⟩ := Same.eqn h6 d6
      refine ⟨_, rfl, b, _, rfl, .inl (SqL.of (s6 _ _ eb)), a6, _, [x0], rfl, rfl, e6, by omega, by omega, le_line (by simp; omega), fun a7 h7 => ?_⟩
      rw [flat_rep]
      generalize d7 : upd H6 a7 _ = H7 at *
      obtain ⟨s7, e7⟩ := Same.eqn h7 d7
      have s37 := Same.trans s6 s7
      have eb7 := s37 _ _ eb
      have pt7 := Paired.keep (F := TrAt) keeps_tr (TK.of s37) pt
      have hrep : Paired (TrAt H7) (List.replicate (b0 :: BS').length x0) (List.replicate (b0 :: BS').length b0) := paired_rep (Ts.keep (TK.of s37) _ _ htx0) _
      have hkn : ((bs.length : Nat) : Int).toNat = (b0 :: BS').length := by rw [hbl, ← hbsl]; rfl
      rw [hkn] at e7
      have heq := eqv_same hok hne
      refine ⟨.list ((b0 :: BS').map tr), .list ((List.replicate (b0 :: BS').length b0).map tr), .lst (SqL.of eb7) (TsA.dp _ _ (tsA_of pt7)), .lst (SqL.of e7) (TsA.dp _ _ (tsA_of hrep)), shaped_list hok.nice hok.depth, shaped_list (BsOk.rep (hok b0 (List.mem_cons_self ..)) _).nice (BsOk.rep (hok b0 (List.mem_cons_self ..)) _).depth, ?_⟩
      have heq : PyData.eqv (.list ((b0 :: BS').map tr)) (.list ((List.replicate (b0 :: BS').length b0).map tr)) = decide (∀ b ∈ b0 :: BS', b = b0) := heq
      rw [heq]
      refine ⟨_, rfl, _, rfl, ?_⟩
      unfold mk at kq
      have s07 := Same.trans s3 s37
      by_cases hall : ∀ b ∈ b0 :: BS', b = b0
      · have hall' : ∀ b ∈ b0 :: BS', b = (b0 :: BS').headD default := hall
        rw [if_pos hall'] at kq
        refine itT (decide_eq_true hall) ?_
        exact ⟨_, rfl, b, _, _, _, rfl, rfl, SqL.of eb7, atI_nat (j := 0) hx0, kq x0 H7 s07 (Ts.keep (TK.of s37) _ _ htx0)⟩
      · have hall' : ¬ ∀ b ∈ b0 :: BS', b = (b0 :: BS').headD default := hall
        rw [if_neg hall'] at kq
        refine itF (decide_eq_false hall) ?_
        refine ⟨_, rfl, l, _, _, _, rfl, rfl, SqL.of (s07 _ _ el), atI_nat (j := 0) hq0, _, rfl, b, bs, rfl, .inl ⟨SqL.of eb7, fun a8 h8 => ⟨(by show 3 ≤ sizeLine; decide), fun a9 h9 => ?_⟩⟩⟩
        generalize d8 : upd H7 a8 _ = H8 at *
        obtain ⟨s8, e8⟩ := Same.eqn h8 d8
        have s9 := Same.new h9 (.tup [.str "ask", .ref q, .ref a8])
        have s79 := Same.trans s8 s9
        refine kq _ _ (Same.trans s07 s79) ?_
        show Ts _ _ _
        rw [tr_ask]
        exact .tup upd_same (.cons (.str _) (.cons (PlAt_mk (s79 _ _ (s07 _ _ hq))) (.cons (.tup (s9 _ _ e8) (tsA_of (Paired.keep (F := TrAt) keeps_tr (TK.of s79) pt7))) .nil)))
end K16

set_option Elab.async false
set_option linter.all false
set_option maxRecDepth 100000
set_option maxHeartbeats 4000000
/-! The law's tree and anew. -/
namespace K16
open PySem PySem.Spec PyProof.Rows L2
open Classical
variable {P : Program} {w : World} {K : PySem.W.Frag} {mg : Str → Option Value} {base : Heap}

/-! ### the places without one -/
theorem lc_rem {K0 K1 : PySem.W.Frag} {i j : Nat} {vs : List Nat} {σ : L2.St} {H1 : Hp} {D l0 q : Addr} {ys : List V} {L : List Pl} {p : Pl} {Qd : Hp → Prop} (hD : H1 D = none) (e : H1 l0 = some (.lst ys)) (ty : TsA H1 ys (L.map pd)) (hq : PlA H1 q p) (hok : ∀ x ∈ L, PlOk x) (hp : PlOk p) (hl : L.length ≤ 1000)
    (h1 : ∀ x : V, wipe ((wipe σ vs).set i (some x)) vs = wipe σ vs) (h2 : ∀ x : V, ((wipe σ vs).set i (some x))[i]? = some (some x)) (h3 : ∀ x : V, ((wipe σ vs).set i (some x))[j]? = some (some (.ref q)))
    (hd : ∀ H, Same H1 H → PlL H D (rem L p) → Qd H) :
    ∃ W : Nat → Nat → Hp → Prop, (∃ m, W 0 m (upd H1 D (.lst []))) ∧ ∀ i' m H, W i' m H →
      ((Itl K0 l0).stop i' H ∧ Qd H) ∨ ((Itl K0 l0).go i' H ∧ ∃ Nx : Hp → Prop, (∀ H', Nx H' → ∃ m', m' < m ∧ W (i' + 1) m' H') ∧ ∀ x H', (Itl K0 l0).yld i' H x H' → gName i x (wipe σ vs) H' fun σ2 H2 => wipe σ2 vs = wipe σ vs ∧ tTest (tOp (rNeD K1) (tVar i) (tVar j)) σ2 H2 fun b H3 =>
        if b = true then tVar i σ2 H3 fun y H4 => ∃ acc, H4 D = some (.lst acc) ∧ acc.length < sizeLine ∧ Nx (upd H4 D (.lst (acc ++ [y]))) else Nx H3) := by
  have hyl : ys.length = L.length := by rw [ty.length, List.length_map]
  refine lc_list (g := gName i) (tt := tTest (tOp (rNeD K1) (tVar i) (tVar j))) (te := tVar i) (fun k H => Same H1 H ∧ ∃ acc, H D = some (.lst acc) ∧ TsA H acc ((rem (L.take k) p).map pd)) ⟨Same.new hD _, [], upd_same, .nil⟩ (fun k H _ w => SqL.of (w.1 _ _ e)) (fun k x H hx w => ?_) (fun H w => ?_)
  · obtain ⟨s, acc, eD, ta⟩ := w
    obtain ⟨p2, q2, hL2, rfl, hq2⟩ := pl_at ty hx
    have hm2 := List.mem_of_getElem? hL2
    refine ⟨h1 _, _, h2 _, _, h3 _, pd p2, pd p, Ts.dp _ _ (PlAt_mk (s _ _ hq2)), Ts.dp _ _ (PlAt_mk (s _ _ hq)), shaped_pd (hok p2 hm2), shaped_pd hp, _, rfl, ?_⟩
    rw [eqv_pd (hok p2 hm2) hp]
    have htk : rem (L.take (k + 1)) p = rem (L.take k) p ++ rem [p2] p := by rw [take_one hL2, rem, rem, rem, List.filter_append]
    by_cases h : p2 = p
    · refine itF (by rw [decide_eq_true h]; rfl) ⟨s, acc, eD, ?_⟩
      have h5 : rem [p2] p = [] := by rw [rem, List.filter_cons, h]; simp
      rw [htk, h5, List.append_nil]
      exact ta
    · have h5 : rem [p2] p = [p2] := by rw [rem, List.filter_cons]; simp [h]
      refine itT (by rw [decide_eq_false h]; rfl) ⟨_, h2 _, acc, eD, lt_line ?_, ?_⟩
      · rw [ta.length, List.length_map]
        have h6 : (rem (L.take k) p).length ≤ (L.take k).length := List.length_filter_le ..
        rw [List.length_take] at h6
        omega
      · have k7 : TK H (upd H D (.lst (acc ++ [.ref q2]))) := TK.lst eD _
        refine ⟨Same.lst s hD, _, upd_same, ?_⟩
        rw [htk, h5, List.map_append]
        exact TsA.append (TsA.keep k7 _ _ ta) (.cons (PlAt_mk (k7 _ _ (s _ _ hq2))) .nil)
  · obtain ⟨s, acc, eD, ta⟩ := w
    rw [hyl, List.take_length] at ta
    exact hd H s ⟨acc, eD, ta⟩

/-! ### tree -/
def VsAt (H : Hp) (vl : Addr) : Prop := ∃ xs, H vl = some (.lst xs) ∧ 0 < xs.length ∧ xs.length ≤ 1000 ∧ ∀ x ∈ xs, ∃ y : Va, Ts H x (vd y)
theorem VsAt.tm {H H' : Hp} {vl : Addr} (h : VsAt H vl) (t : TM H H') : VsAt H' vl := let ⟨xs, h1, h2, h3, h4⟩ := h; ⟨xs, t.lst h1, h2, h3, fun x hx => let ⟨y, hy⟩ := h4 x hx; ⟨y, Ts.keep t.td _ _ hy⟩⟩
/-- places that may be drawn -/
structure Lok (m : Nat → Nat) (L : List Pl) : Prop where
  nd : L.Nodup
  two : ∀ p ∈ L, 2 ≤ m p.2
  ok : ∀ p ∈ L, p ∈ allPl
  prd : prd m L ≤ 300
theorem Menu.lok {m : Nat → Nat} {L : List Pl} (M : Menu m L) : Lok m L := ⟨M.nodup, M.two, M.ok, M.prd⟩
section
variable {m : Nat → Nat} {L : List Pl}
theorem Lok.pos (M : Lok m L) : ∀ p ∈ L, 0 < m p.2 := fun p hp => Nat.lt_of_lt_of_le (by omega) (M.two p hp)
theorem Lok.plOk (M : Lok m L) : ∀ p ∈ L, PlOk p := fun p hp => allPl_ok p (M.ok p hp)
theorem Lok.rem (M : Lok m L) {p : Pl} (hp : p ∈ L) : Lok m (rem L p) ∧ m p.2 ≤ 300 ∧ K16.prd m L = m p.2 * K16.prd m (K16.rem L p) ∧ 0 < K16.prd m (K16.rem L p) := by
  have h1 := prd_rem (m := m) M.nd hp
  have h2 : 0 < K16.prd m (K16.rem L p) := prd_pos fun q hq => M.pos q (rem_sub hq)
  have h3 := M.prd
  have h4 : m p.2 * 1 ≤ m p.2 * K16.prd m (K16.rem L p) := Nat.mul_le_mul_left _ h2
  have h5 : 1 * K16.prd m (K16.rem L p) ≤ m p.2 * K16.prd m (K16.rem L p) := Nat.mul_le_mul_right _ (M.pos p hp)
  exact ⟨⟨rem_nodup M.nd, fun q hq => M.two q (rem_sub hq), fun q hq => M.ok q (rem_sub hq), by omega⟩, by omega, h1, h2⟩
theorem Lok.len (M : Lok m L) : L.length ≤ 44 := by
  have h1 := le_of_rel (· = ·) (l := L) (k := allPl) M.nd (fun a ha => ⟨_, M.ok a ha, rfl⟩) (fun a b c e1 e2 => e1.trans e2.symm)
  have h2 : allPl.length = 44 := by decide +kernel
  omega
end
abbrev sTr : Stmt := top 30
abbrev NTr : List Str := ["_law_m", "_law_sizes", "_law_places", "_law_fuel", "_law_values", "_law_place", "_law_rest", "_law_other", "_law_d"]
theorem scTr : FnScope NTr ["_law_m", "_law_sizes", "_law_places", "_law_fuel", "_law_values"] (defScope sTr) := ⟨rfl, rfl, rfl, by decide +kernel, rfl, by decide +kernel, by decide +kernel⟩
def spTr (j : Nat) : Sp := fun vs H Q _ => ∃ (a c s l vl : Addr) (fuel : Int) (n : Nat) (m : Nat → Nat) (L : List Pl), vs = [.ref a, .ref s, .ref l, .int fuel, .ref vl] ∧ MAt H a c n ∧ n + 3 * prd m L ≤ 100000 ∧ SzAt H s m ∧ PlL H l L ∧ Lok m L ∧ VsAt H vl ∧ L.length < j ∧
  ∀ r t H', TM H H' → MAt H' a c (n + (3 * prd m L - 2)) → TrAt H' r t → Wf m L t → Q r H'
theorem ok_tr (D : Def K mg "_law_tree" sTr ["_law_m", "_law_sizes", "_law_places", "_law_fuel", "_law_values"]) (Z : Bi mg) (C__law_draw : Cal P w K mg base 1 "_law_draw" spDr) (C__law_of : Cal P w K mg base 2 "_law_of" spOf) : ∀ j, Cal P w K mg base (2 + j) "_law_tree" (spTr j) := by
  refine D.recur spTr (fun vs H Q E ⟨a, c, s, l, vl, fuel, n, m, L, _, _, _, _, _, _, _, h, _⟩ => nomatch h) fun j C__law_tree => ?_
  refine D.ok scTr (fun vs H Q E h => ?_) (fun f cdv A outer s H vs Q E hr h => ?_)
  · obtain ⟨a, c, s, l, vl, fuel, n, m, L, rfl, _⟩ := h
    rfl
  obtain ⟨a, c, sz, l, vl, fuel, n, m, L, rfl, hm, hn, hsz, hl, M, hv, hj, kq⟩ := h
  have hu64 := hr.units
  have hpr1 : 0 < prd m L := prd_pos M.pos
  refine ⟨_, (pss_cons (ps_if (PW.pt (pw_or (pt_cmpR op_lt (pv 3) pe_int (nomark _)) (pw_or (pt_cmpR (op_eqD hu64) (pv 2) (pe_lst pa_nil) (nomark _)) (pw_or1 (pt_cmpR op_eq (pe_cal C__law_draw (hr.mono (by omega)) (pa_cons (pv 0) (pa_cons pe_int pa_nil))) pe_int (nomark _)))))) (pss_one (ps_ret (pe_tup (pa_cons pe_str (pa_cons (pe_cal C__law_of (hr.mono (by omega)) (pa_cons (pv 0) (pa_cons (pv 4) pa_nil))) pa_nil))))) pss_nil)
    (pss_cons (ps_set (i := 5) scTr.nd rfl (Or.inr rfl) (pe_cal C__law_of (hr.mono (by omega)) (pa_cons (pv 0) (pa_cons (pv 2) pa_nil))))
    (pss_cons (ps_set (i := 6) scTr.nd rfl (Or.inr rfl) (pe_lc (own := [("_law_other", 7)]) (g := gName 7) rfl scTr.nd (pi_list (pv 2)) (blkOk_by (own := [("_law_other", 7)]) (N := NTr) (sc := defScope sTr) (by decide +kernel)) (fun _ _ _ _ _ => (pg_name (i := 7) scTr.nd rfl (Or.inl rfl))) (fun _ _ _ _ _ => by exact (pts_one (pt_cmpR (op_neDk K rfl hu64) (pv 7) (pv 5) (nomark _)))) (fun _ _ _ _ _ => by exact (pv 7))))
    (pss_one (ps_ret (pe_tup (pa_cons pe_str (pa_cons (pv 5) (pa_cons (pe_callTy call_tuple_of (by rfl) Z.tuple (by decide +kernel) (pa_cons (pe_lc (own := [("_law_d", 8)]) (g := gName 8) (tt := tYes) rfl scTr.nd (pi_range1 (by rfl) Z.range (pa_cons (pe_it (pv 1) (pe_it (pv 5) pe_int)) pa_nil)) (blkOk_by (own := [("_law_d", 8)]) (N := NTr) (sc := defScope sTr) (by decide +kernel)) (fun _ _ _ _ _ => (pg_name (i := 8) scTr.nd rfl (Or.inl rfl))) (fun _ _ _ _ _ => by exact pts_nil) (fun _ _ _ _ _ => by exact (pe_cal C__law_tree (hr.mono (by omega)) (pa_cons (pv 0) (pa_cons (pv 1) (pa_cons (pv 6) (pa_cons (pe_op op_sub (pv 3) pe_int) (pa_cons (pv 4) pa_nil)))))))) pa_nil)) pa_nil))))))))), ?_⟩
  have hend : ∀ (D' : Ends) (H1 : Hp) (n1 : Nat), D'.rt = Q → TM H H1 → MAt H1 a c n1 → n1 + 1 ≤ n + 2 → (prd m L = 1 → n1 ≤ n) → tRet (tTup (tCons (tC (.str "end")) (tCons (tCal spOf (tCons (tVar 0) (tCons (tVar 4) tNil))) tNil))) D' (L2.start NTr [.ref a, .ref sz, .ref l, .int fuel, .ref vl]) H1 := by
    intro D' H1 n1 hD tm1 hm1 hn1 hn2
    obtain ⟨xs, ev1, hx0, hx1, hxs⟩ := hv.tm tm1
    refine ⟨_, rfl, _, rfl, a, c, vl, n1, xs, rfl, hm1, by omega, ev1, hx0, hx1, fun i x H2 hxi tm2 hm2 => ⟨(by show 2 ≤ sizeLine; decide), fun a2 ha2 => ?_⟩⟩
    obtain ⟨y, hy⟩ := hxs x (List.mem_of_getElem? hxi)
    rw [hD]
    have s2 := Same.new ha2 (.tup [.str "end", x])
    refine kq _ (.fin y) _ (TM.trans tm1 (TM.trans tm2 (TM.of s2))) ((hm2.same s2).mono ?_) (.tup upd_same (.cons (.str _) (.cons (Ts.keep (TK.trans tm2.td (TK.of s2)) _ _ hy) .nil))) .fin
    by_cases h1 : prd m L = 1
    · have := hn2 h1; omega
    · omega
  refine ⟨_, rfl, fuel, 1, rfl, rfl, _, rfl, ?_⟩
  by_cases hf : fuel < 1
  · exact itT (decide_eq_true hf) (itT rfl (hend _ H n rfl (TM.refl H) hm (by omega) fun _ => Nat.le_refl _))
  refine itF (decide_eq_false hf) ?_
  obtain ⟨ys, el, ty⟩ := id hl
  refine ⟨_, rfl, Nat.zero_le _, fun a1 h1 => ?_⟩
  have s1 := Same.new h1 (.lst [])
  refine ⟨.list (L.map pd), .list [], .lst (SqL.of (s1 _ _ el)) (TsA.dp _ _ (TsA.keep (TK.of s1) _ _ ty)), .lst (SqL.of upd_same) .nil, shaped_pds M.plOk, shaped_nil, _, rfl, ?_⟩
  rw [eqv_pds_nil M.plOk]
  have hm1 := hm.same s1
  generalize upd H a1 (.lst []) = H1 at *
  by_cases hL0 : L = []
  · exact itT (decide_eq_true hL0) (itT rfl (hend _ H1 n rfl (TM.of s1) hm1 (by omega) fun _ => Nat.le_refl _))
  refine itF (decide_eq_false hL0) ?_
  obtain ⟨p0, hp0⟩ := List.exists_mem_of_ne_nil L hL0
  have hpr2 : prd m L ≠ 1 := by
    obtain ⟨_, _, h1, h2⟩ := M.rem hp0
    have h3 := M.two p0 hp0
    have h4 : 2 * prd m (rem L p0) ≤ m p0.2 * prd m (rem L p0) := Nat.mul_le_mul_right _ h3
    omega
  refine ⟨_, rfl, a, c, 6, n, rfl, hm1, by omega, by omega, by omega, fun r2 H2 hr2 tm2 hm2 => ⟨rfl, _, rfl, ?_⟩⟩
  have tm02 := TM.trans (TM.of s1) tm2
  by_cases h0 : V.int (r2 : Int) = V.int 0
  · exact itT (decide_eq_true h0) (hend _ H2 (n + 1) rfl tm02 hm2 (by omega) fun z => absurd z hpr2)
  refine itF (decide_eq_false h0) ?_
  have hyl : ys.length = L.length := by rw [ty.length, List.length_map]
  have hLn : 0 < L.length := List.length_pos_of_mem hp0
  have hLl := M.len
  refine ⟨_, rfl, _, rfl, a, c, l, n + 1, ys, rfl, hm2, by omega, tm02.lst el, by omega, by omega, fun i x H3 hxi tm3 hm3 => ?_⟩
  have tm03 := TM.trans tm02 tm3
  have ty3 := TsA.keep tm03.td _ _ ty
  obtain ⟨p, q, hLi, rfl, hq⟩ := pl_at ty3 hxi
  have hp := List.mem_of_getElem? hLi
  obtain ⟨MR, hm300, hprd, hprR⟩ := M.rem hp
  have htwo := M.two p hp
  refine ⟨_, rfl, l, rfl, ⟨_, SqL.of (tm03.lst el)⟩, fun D0 hD0 => ?_⟩
  refine lc_rem (K1 := K) hD0 (tm03.lst el) ty3 hq M.plOk (M.plOk p hp) (by omega) (fun _ => rfl) (fun _ => rfl) (fun _ => rfl) fun H4 s4 hrest => ?_
  have tm04 := TM.trans tm03 (TM.of s4)
  have hm4 := hm3.same s4
  have hq4 := s4 _ _ hq
  obtain ⟨xss, ess, hss⟩ := (hsz.tk tm04.td).get (M.pos p hp)
  refine ⟨_, rfl, _, rfl, _, rfl, q, _, _, _, rfl, rfl, SqT.of hq4, rfl, sz, _, _, _, rfl, rfl, SqT.of ess, atI_nat hss, ?_⟩
  refine ⟨_, rfl, by omega, by omega, fun D1 hD1 => ?_⟩
  have hcell := hm4.cell hD1
  obtain ⟨C, hCd⟩ : ∃ C, C = 3 * prd m (rem L p) - 2 := ⟨_, rfl⟩
  have hC : C + 2 = 3 * prd m (rem L p) := by omega
  have hmC : m p.2 * C + 2 * m p.2 = 3 * prd m L := by
    have h1 : m p.2 * (C + 2) = m p.2 * (3 * prd m (rem L p)) := by rw [hC]
    rw [Nat.mul_add, Nat.mul_left_comm, ← hprd] at h1
    omega
  refine lc_range (n := m p.2) (fun e H5 => TM H4 H5 ∧ MAt H5 a c (n + 2 + e * C) ∧ ∃ acc ts, H5 D1 = some (.lst acc) ∧ Paired (TrAt H5) acc ts ∧ ts.length = e ∧ ∀ t ∈ ts, Wf m (rem L p) t) ⟨TM.of (Same.new hD1 _), (hm4.same (Same.new hD1 _)).mono (by omega), [], [], upd_same, .nil, rfl, fun t ht => nomatch ht⟩ (fun e H5 he w => ?_) (fun H5 w => ?_)
  · obtain ⟨tm5, hm5, acc, ts, eD, pt, htl, hwf⟩ := w
    have heC : e * C + C ≤ m p.2 * C := by
      have := Nat.mul_le_mul_right C he
      rw [Nat.succ_mul] at this
      exact this
    have tm05 := TM.trans tm04 tm5
    refine ⟨rfl, itT (B := True) rfl ?_⟩
    refine ⟨_, rfl, _, rfl, _, rfl, _, rfl, fuel, 1, rfl, rfl, _, rfl, a, c, sz, D0, vl, fuel - 1, n + 2 + e * C, m, rem L p, rfl, hm5, by omega, hsz.tk tm05.td, hrest.tm tm5, MR, hv.tm tm05, ?_, fun r6 t6 H6 tm6 hm6 hr6 hw6 => ?_⟩
    · have := rem_length hp
      omega
    · have eD6 := tm6.lst eD
      have k7 : TK H6 (upd H6 D1 (.lst (acc ++ [r6]))) := TK.lst eD6 _
      have hal : acc.length = e := by rw [Paired.len pt, htl]
      refine ⟨acc, eD6, lt_line (by omega), TM.fresh (TM.trans tm5 tm6) hD1 _, (hm6.lst eD6 hcell _).mono ?_, acc ++ [r6], ts ++ [t6], upd_same, Paired.snoc (Paired.keep (F := TrAt) keeps_tr (TK.trans tm6.td k7) pt) (Ts.keep k7 _ _ hr6), by rw [List.length_append, htl]; rfl, fun t ht => ?_⟩
      · have h9 : (e + 1) * C = e * C + C := Nat.succ_mul e C
        omega
      · rcases List.mem_append.mp ht with h | h
        · exact hwf t h
        · rw [List.mem_singleton.mp h]; exact hw6
  · obtain ⟨tm5, hm5, acc, ts, eD, pt, htl, hwf⟩ := w
    refine ⟨D1, acc, rfl, .inl ⟨SqL.of eD, fun a6 h6 => ⟨(by show 3 ≤ sizeLine; decide), fun a7 h7 => ?_⟩⟩⟩
    generalize d6 : upd H5 a6 _ = H6 at *
    obtain ⟨s6, e6⟩ := Same.eqn h6 d6
    have s7 := Same.new h7 (.tup [.str "ask", .ref q, .ref a6])
    have s57 := Same.trans s6 s7
    refine kq _ (.ask p ts) _ (TM.trans tm04 (TM.trans tm5 (TM.of s57))) ((hm5.same s57).mono (by omega)) ?_ (.ask hp htl hwf)
    show Ts _ _ _
    rw [tr_ask]
    exact .tup upd_same (.cons (.str _) (.cons (PlAt_mk (s57 _ _ (tm5.td _ _ hq4))) (.cons (.tup (s7 _ _ e6) (tsA_of (Paired.keep (F := TrAt) keeps_tr (TK.of s57) pt))) .nil)))
end K16

set_option Elab.async false
set_option linter.all false
set_option maxRecDepth 100000
set_option maxHeartbeats 4000000
/-! The law's anew. -/
namespace K16
open PySem PySem.Spec PyProof.Rows L2
open Classical
variable {P : Program} {w : World} {K : PySem.W.Frag} {mg : Str → Option Value} {base : Heap}
theorem ovr_rem {L : List Pl} {p : Pl} (hp : p ∈ L) (r f : Pl → Nat) : ovr (rem L p) (st r p (f p)) f = ovr L r f := by
  funext q
  by_cases e : q = p
  · subst e
    have h1 : q ∉ rem L q := fun z => (mem_rem.mp z).2 rfl
    rw [ovr_out h1, st_same, ovr_all hp]
  · by_cases h : q ∈ L
    · rw [ovr_all (mem_rem.mpr ⟨h, e⟩), ovr_all h]
    · rw [ovr_out (fun z => h (mem_rem.mp z).1), ovr_out h, st_ne e]
abbrev sAn : Stmt := top 35
abbrev NAn : List Str := ["_law_m", "_law_sizes", "_law_left", "_law_tree_here", "_law_filling", "_law_place", "_law_branches", "_law_rest", "_law_d", "_law_more", "_law_is_idle", "_law_other"]
theorem scAn : FnScope NAn ["_law_m", "_law_sizes", "_law_left", "_law_tree_here", "_law_filling"] (defScope sAn) := ⟨rfl, rfl, rfl, by decide +kernel, rfl, by decide +kernel, by decide +kernel⟩
def spAn (j : Nat) : Sp := fun vs H Q _ => ∃ (a c s l fa : Addr) (v : V) (n : Nat) (m : Nat → Nat) (L D L0 : List Pl) (t : Tr) (k : Kf) (r : Pl → Nat), vs = [.ref a, .ref s, .ref l, v, .ref fa] ∧ MAt H a c n ∧ n + 2 * prd m L ≤ 100000 ∧ SzAt H s m ∧ PlL H l L ∧ Lok m L ∧ Menu m L0 ∧ Wf m L0 t ∧ (∀ p ∈ L, p ∈ L0) ∧
  TrAt H v t ∧ KnAt H fa k ∧ Agr m D k r ∧ (∀ p ∈ L0, p ∈ D ∨ p ∈ L) ∧ L.length < j ∧
  ∀ r' T H', TM H H' → MAt H' a c (n + (2 * prd m L - 2)) → TrAt H' r' T → Wf m L T → (∀ f, Vd m L f → ev T f = ev t (ovr L r f)) → Q r' H'
theorem ok_an (D : Def K mg "_law_anew" sAn ["_law_m", "_law_sizes", "_law_left", "_law_tree_here", "_law_filling"]) (Z : Bi mg) (C__law_value : Cal P w K mg base 1 "_law_value" spVa) (C__law_draw : Cal P w K mg base 1 "_law_draw" spDr) (C__law_of : Cal P w K mg base 2 "_law_of" spOf) :
    ∀ j, Cal P w K mg base (2 + j) "_law_anew" (spAn j) := by
  refine D.recur spAn (fun vs H Q E ⟨a, c, s, l, fa, v, n, m, L, D, L0, t, k, r, _, _, _, _, _, _, _, _, _, _, _, _, _, h, _⟩ => nomatch h) fun j C__law_anew => ?_
  refine D.ok scAn (fun vs H Q E h => ?_) (fun f cdv A outer s H vs Q E hr h => ?_)
  · obtain ⟨a, c, s, l, fa, v, n, m, L, D, L0, t, k, r, rfl, _⟩ := h
    rfl
  obtain ⟨a, c, sz, l, fa, v, n, m, L, D, L0, t, k, r, rfl, hm, hn, hsz, hl, M, M0, hw, hL, ht, hk, hag, hcov, hj, kq⟩ := h
  have hu := hu_of hr
  have hu64 := hr.units
  have hpr1 : 0 < prd m L := prd_pos M.pos
  obtain ⟨ys, el, ty⟩ := id hl
  refine ⟨_, (pss_cons (ps_if (pt_cmpR (op_eqD hu64) (pv 2) (pe_lst pa_nil) (nomark _)) (pss_one (ps_ret (pe_tup (pa_cons pe_str (pa_cons (pe_cal C__law_value (hr.mono (by omega)) (pa_cons (pv 3) (pa_cons (pv 4) pa_nil))) pa_nil))))) pss_nil)
    (pss_cons (ps_asg (pe_tup (pa_cons (pe_cal C__law_of (hr.mono (by omega)) (pa_cons (pv 0) (pa_cons (pv 2) pa_nil))) (pa_cons (pe_lst pa_nil) pa_nil))) (pg_tup rfl (pgs_cons (pg_name (i := 5) scAn.nd rfl (Or.inr rfl)) (pgs_cons (pg_name (i := 6) scAn.nd rfl (Or.inl rfl)) pgs_nil))))
    (pss_cons (ps_setLc (i := 7) (own := [("_law_other", 11)]) (g := gName 11) rfl scAn.nd rfl rfl (sw_true rfl rfl rfl (by decide +kernel)) (pi_list (pv 2)) (blkOk_by (own := [("_law_other", 11)]) (N := NAn) (sc := defScope sAn) (by decide +kernel)) (fun _ _ _ _ _ => (pg_name (i := 11) scAn.nd rfl (Or.inl rfl))) (fun _ _ _ _ _ => by exact (pts_one (pt_cmpR (op_neDk K rfl hu64) (pv 11) (pv 5) (nomark _)))) (fun _ _ _ _ _ => by exact (pv 11)))
    (pss_cons (ps_for PassesOwn.never rfl (pi_range1 (by rfl) Z.range (pa_cons (pe_it (pv 1) (pe_it (pv 5) pe_int)) pa_nil)) (pg_name (i := 8) scAn.nd rfl (Or.inl rfl)) (pss_cons (ps_set (i := 9) scAn.nd rfl (Or.inl rfl) (pe_callTy (cr_copyT hu64) (by rfl) Z.dict (by decide +kernel) (pa_cons (pv 4) pa_nil)))
    (pss_cons (ps_dput hu (pv 9) (pv 5) (pv 8) rfl)
    (pss_one (ps_expr (pe_bm PySem.F.plainAttrs_list PySem.F.slot_list_append PySem.F.type_list_append mt_append (pv 6) (pa_cons (pe_cal C__law_anew (hr.mono (by omega)) (pa_cons (pv 0) (pa_cons (pv 1) (pa_cons (pv 7) (pa_cons (pv 3) (pa_cons (pv 9) pa_nil)))))) pa_nil)))))))
    (pss_cons (ps_set (i := 10) scAn.nd rfl (Or.inl rfl) (pe_cmpR (op_eqD hu64) (pv 6) (pe_op op_rep (pe_lst (pa_cons (pe_il (pv 6) pe_int) pa_nil)) (pe_callB call_len_seq (by rfl) Z.len PySem.boot_len (pa_cons (pv 6) pa_nil))) (nomark _)))
    (pss_one (ps_ret (pe_ifExp (PW.pt (pw_and (pt_val (pv 10)) (pw_and1 (pt_cmpR op_gt (pe_cal C__law_draw (hr.mono (by omega)) (pa_cons (pv 0) (pa_cons pe_int pa_nil))) pe_int (nomark _))))) (pe_il (pv 6) pe_int) (pe_tup (pa_cons pe_str (pa_cons (pv 5) (pa_cons (pe_callTy call_tuple_of (by rfl) Z.tuple (by decide +kernel) (pa_cons (pv 6) pa_nil)) pa_nil)))))))))))), ?_⟩
  refine ⟨_, rfl, Nat.zero_le _, fun a1 h1 => ?_⟩
  have s1 := Same.new h1 (.lst [])
  refine ⟨.list (L.map pd), .list [], .lst (SqL.of (s1 _ _ el)) (TsA.dp _ _ (TsA.keep (TK.of s1) _ _ ty)), .lst (SqL.of upd_same) .nil, shaped_pds M.plOk, shaped_nil, _, rfl, ?_⟩
  rw [eqv_pds_nil M.plOk]
  generalize upd H a1 (.lst []) = H1 at *
  by_cases hL0 : L = []
  · refine itT (decide_eq_true hL0) ?_
    subst hL0
    have hD : ∀ p ∈ L0, p ∈ D := fun p hp => (hcov p hp).resolve_right (by simp)
    refine ⟨_, rfl, _, rfl, v, fa, t, m, L0, k, r, rfl, Ts.keep (TK.of s1) _ _ ht, hk.same s1, hw, fun p hp => (hag p (hD p hp)).1, fun p hp => (hag p (hD p hp)).2, fun x hx => ⟨(by show 2 ≤ sizeLine; decide), fun a2 ha2 => ?_⟩⟩
    have s2 := Same.new ha2 (.tup [.str "end", x])
    refine kq _ (.fin (ev t r)) _ (TM.of (Same.trans s1 s2)) ((hm.same (Same.trans s1 s2)).mono (by omega)) (.tup upd_same (.cons (.str _) (.cons (Ts.keep (TK.of s2) _ _ hx) .nil))) .fin fun f hf => ?_
    rw [ovr_nil]
    rfl
  refine itF (decide_eq_false hL0) ?_
  obtain ⟨p0, hp0⟩ := List.exists_mem_of_ne_nil L hL0
  have hyl : ys.length = L.length := by rw [ty.length, List.length_map]
  have hLn : 0 < L.length := List.length_pos_of_mem hp0
  have hLl := M.len
  refine ⟨_, rfl, _, rfl, a, c, l, n, ys, rfl, hm.same s1, by omega, s1 _ _ el, by omega, by omega, fun i x H2 hxi tm2 hm2 => ⟨Nat.zero_le _, fun b hb => ⟨(by show 2 ≤ sizeLine; decide), fun tq htq => ⟨tq, _, rfl, SqT.of upd_same, rfl, _, _, rfl, _, _, rfl, rfl, ?_⟩⟩⟩⟩
  have tm02 := TM.trans (TM.of s1) tm2
  have ty2 := TsA.keep tm02.td _ _ ty
  obtain ⟨p, q, hLi, rfl, hq⟩ := pl_at ty2 hxi
  have hp := List.mem_of_getElem? hLi
  obtain ⟨MR, hm300, hprd, hprR⟩ := M.rem hp
  have htwo := M.two p hp
  have hbc := hm2.cell hb
  generalize d3 : upd H2 b _ = H3 at *
  obtain ⟨s3, e3⟩ := Same.eqn hb d3
  generalize d4 : upd H3 tq _ = H4 at *
  obtain ⟨s4, e4⟩ := Same.eqn htq d4
  have s24 := Same.trans s3 s4
  have el4 := s24 _ _ (tm02.lst el)
  refine ⟨_, rfl, l, rfl, ⟨_, SqL.of el4⟩, fun D0 hD0 => ?_⟩
  refine lc_rem (K1 := K) hD0 el4 (TsA.keep (TK.of s24) _ _ ty2) (s24 _ _ hq) M.plOk (M.plOk p hp) (by omega) (fun _ => rfl) (fun _ => rfl) (fun _ => rfl) fun H5 s5 hrest => ?_
  have hbD : b ≠ D0 := ne_som (s4 _ _ e3) hD0
  have s25 := Same.trans s24 s5
  obtain ⟨xss, ess, hss⟩ := (hsz.tk tm02.td).get (M.pos p hp)
  refine ⟨_, rfl, _, rfl, q, _, _, _, rfl, rfl, SqT.of (s25 _ _ hq), rfl, sz, _, _, _, rfl, rfl, SqT.of (s25 _ _ ess), atI_nat hss, ?_⟩
  refine ⟨_, rfl, by omega, by omega, ?_⟩
  obtain ⟨C, hCd⟩ : ∃ C, C = 2 * prd m (rem L p) - 2 := ⟨_, rfl⟩
  have hC : C + 2 = 2 * prd m (rem L p) := by omega
  have hmC : m p.2 * C + 2 * m p.2 = 2 * prd m L := by
    have h1 : m p.2 * (C + 2) = m p.2 * (2 * prd m (rem L p)) := by rw [hC]
    rw [Nat.mul_add, Nat.mul_left_comm, ← hprd] at h1
    omega
  refine for_range (n := m p.2) (fun e σ H6 => ∃ bs BS x8 x9 x10 x11, σ = [some (.ref a), some (.ref sz), some (.ref l), some v, some (.ref fa), some (.ref q), some (.ref b), some (.ref D0), x8, x9, x10, x11] ∧ TM H2 H6 ∧ MAt H6 a c (n + 1 + e * C) ∧ PlL H6 D0 (rem L p) ∧ H6 b = some (.lst bs) ∧ Paired (TrAt H6) bs BS ∧ BS.length = e ∧
      ∀ (d : Nat) (B : Tr), BS[d]? = some B → Wf m (rem L p) B ∧ ∀ f, Vd m (rem L p) f → ev B f = ev t (ovr (rem L p) (st r p d) f))
    ⟨[], [], _, _, _, _, rfl, TM.of s25, (hm2.same s25).mono (by omega), hrest, s5 _ _ (s4 _ _ e3), .nil, rfl, fun d B h => by simp at h⟩ (fun e σ H6 he w => ?_) (fun σ H6 w => ?_)
  · obtain ⟨bs, BS, x8, x9, x10, x11, hσ, tm6, hm6, hr6, eb6, pt6, hBl, hB⟩ := w
    subst hσ
    rw [Int.zero_add]
    have heC : e * C + C ≤ m p.2 * C := by
      have := Nat.mul_le_mul_right C he
      rw [Nat.succ_mul] at this
      exact this
    have tm06 := TM.trans tm02 tm6
    obtain ⟨ps, eps, hpk, htl⟩ := tm06.kn hk
    refine ⟨_, rfl, fa, ps, rfl, eps, hpk, fun a7 h7 => ?_⟩
    generalize d7 : upd H6 a7 _ = H7 at *
    obtain ⟨s7, e7⟩ := Same.eqn h7 d7
    have hm7 := hm6.same s7
    have hq7 := s7 _ _ (tm6.td _ _ hq)
    refine ⟨_, rfl, _, rfl, _, rfl, a7, _, rfl, PD_put e7 hpk hq7, ?_⟩
    have s8 : Same H6 (upd H7 a7 (.dT ((putP ps p (.int (e : Int))).map pkv))) := Same.lst s7 h7
    have e8 : upd H7 a7 (.dT ((putP ps p (.int (e : Int))).map pkv)) a7 = some _ := upd_same
    have hm8 := hm7.dict e7 (.dT ((putP ps p (.int (e : Int))).map pkv))
    generalize upd H7 a7 (.dT ((putP ps p (.int (e : Int))).map pkv)) = H8 at *
    have hk8 : KnAt H8 a7 (kst k p e) := ⟨_, e8, hpk.put (M.ok p hp) _, htl.put p e⟩
    have tm28 := TM.trans tm6 (TM.of s8)
    have tm08 := TM.trans tm06 (TM.of s8)
    refine ⟨_, rfl, ty_l (s8 _ _ eb6), _, rfl, _, rfl, _, rfl, _, rfl, _, rfl, a, c, sz, D0, a7, v, n + 1 + e * C, m, rem L p, p :: D, L0, t, kst k p e, st r p e, rfl, hm8, by omega, hsz.tk tm08.td, hr6.same s8, MR, M0, hw, fun x hx => hL x (rem_sub hx), Ts.keep tm08.td _ _ ht, hk8, hag.put he, fun x hx => ?_, ?_, fun r9 T9 H9 tm9 hm9 hr9 hw9 hev9 => ?_⟩
    · rcases hcov x hx with h | h
      · exact .inl (List.mem_cons_of_mem _ h)
      · by_cases hxp : x = p
        · exact .inl (by rw [hxp]; exact List.mem_cons_self ..)
        · exact .inr (mem_rem.mpr ⟨h, hxp⟩)
    · have := rem_length hp
      omega
    · have eb9 := tm9.lst (s8 _ _ eb6)
      have hbl : bs.length = e := by rw [Paired.len pt6, hBl]
      refine ⟨b, _, _, rfl, rfl, eb9, lt_line (by omega), ?_⟩
      have k10 : TK H9 (upd H9 b (.lst (bs ++ [r9]))) := TK.lst eb9 _
      have k610 := TK.trans (TK.trans (TK.of s8) tm9.td) k10
      obtain ⟨zs, ez, tz⟩ := (hr6.same s8).tm tm9
      refine ⟨_, BS ++ [T9], _, _, _, _, rfl, TM.fresh (TM.trans tm28 tm9) hb _, (hm9.lst eb9 hbc _).mono ?_, ⟨zs, upd_at ez (Ne.symm hbD), TsA.keep k10 _ _ tz⟩, upd_same, Paired.snoc (Paired.keep (F := TrAt) keeps_tr k610 pt6) (Ts.keep k10 _ _ hr9), by rw [List.length_append, hBl]; rfl, fun d B hd => ?_⟩
      · have h9 : (e + 1) * C = e * C + C := Nat.succ_mul e C
        omega
      · by_cases hde : d < e
        · rw [List.getElem?_append_left (by omega)] at hd
          exact hB d B hd
        · have hd1 := (List.getElem?_eq_some_iff.mp hd).1
          rw [List.length_append, List.length_singleton] at hd1
          have hd2 : d = BS.length := by omega
          rw [hd2, List.getElem?_append_right (Nat.le_refl _), Nat.sub_self] at hd
          have hd3 : T9 = B := Option.some.inj hd
          rw [hd2, hBl, ← hd3]
          exact ⟨hw9, hev9⟩
  · obtain ⟨bs, BS, x8, x9, x10, x11, hσ, tm6, hm6, hr6, eb6, pt6, hBl, hB⟩ := w
    subst hσ
    have hbl : bs.length = m p.2 := by rw [Paired.len pt6, hBl]
    have hne : BS ≠ [] := fun z => by rw [z] at hBl; simp at hBl; omega
    have hok : BsOk BS := fun B hBm => by
      obtain ⟨d, hd⟩ := List.getElem?_of_mem hBm
      have hwl : Wf m L0 B := (hB d B hd).1.mono fun x hx => hL x (rem_sub hx)
      have := hwl.dep
      have := M0.len
      exact ⟨M0.trOk hwl, by omega⟩
    have hwf : ∀ B ∈ BS, Wf m (rem L p) B := fun B hBm => by
      obtain ⟨d, hd⟩ := List.getElem?_of_mem hBm
      exact (hB d B hd).1
    have hevp : ∀ f, Vd m L f → ∀ B, BS[f p]? = some B → ev B f = ev t (ovr L r f) := fun f hf B hd => by
      rw [(hB _ B hd).2 f (fun x hx => hf x (rem_sub hx)), ovr_rem hp]
    obtain ⟨b0, BS', rfl⟩ : ∃ b0 BS', BS = b0 :: BS' := by cases BS with
      | nil => exact absurd rfl hne
      | cons b0 BS' => exact ⟨_, _, rfl⟩
    obtain ⟨x0, hx0, htx0⟩ := Paired.nth pt6 (i := 0) rfl
    refine ⟨_, rfl, _, rfl, b, _, _, _, rfl, rfl, SqL.of eb6, atI_nat (j := 0) hx0, (by show 1 ≤ sizeLine; decide), fun a7 h7 => ?_⟩
    generalize d7 : upd H6 a7 _ = H7 at *
    obtain ⟨s7, e7⟩ := Same.eqn h7 d7
    refine ⟨_, rfl, b, _, rfl, .inl (SqL.of (s7 _ _ eb6)), a7, _, [x0], rfl, rfl, e7, by omega, by omega, le_line (by simp; omega), fun a8 h8 => ?_⟩
    rw [flat_rep]
    generalize d8 : upd H7 a8 _ = H8 at *
    obtain ⟨s8, e8⟩ := Same.eqn h8 d8
    have s68 := Same.trans s7 s8
    have eb8 := s68 _ _ eb6
    have pt8 := Paired.keep (F := TrAt) keeps_tr (TK.of s68) pt6
    have hrep : Paired (TrAt H8) (List.replicate (b0 :: BS').length x0) (List.replicate (b0 :: BS').length b0) := paired_rep (Ts.keep (TK.of s68) _ _ htx0) _
    have hkn : ((bs.length : Nat) : Int).toNat = (b0 :: BS').length := by rw [hbl, hBl]; rfl
    rw [hkn] at e8
    have heq : PyData.eqv (.list ((b0 :: BS').map tr)) (.list ((List.replicate (b0 :: BS').length b0).map tr)) = decide (∀ b ∈ b0 :: BS', b = b0) := eqv_same hok hne
    refine ⟨.list ((b0 :: BS').map tr), .list ((List.replicate (b0 :: BS').length b0).map tr), .lst (SqL.of eb8) (TsA.dp _ _ (tsA_of pt8)), .lst (SqL.of e8) (TsA.dp _ _ (tsA_of hrep)), shaped_list hok.nice hok.depth, shaped_list (BsOk.rep (hok b0 (List.mem_cons_self ..)) _).nice (BsOk.rep (hok b0 (List.mem_cons_self ..)) _).depth, ?_⟩
    rw [heq]
    have hm8 := hm6.same s68
    have tm08 := TM.trans tm02 (TM.trans tm6 (TM.of s68))
    have hq8 := s68 _ _ (tm6.td _ _ hq)
    have hask : ∀ (H9 : Hp), TM H8 H9 → MAt H9 a c (n + 1 + m p.2 * C + 1) → ∀ (x8 x9 x10 x11 : Option V), tTup (tCons (tC (.str "ask")) (tCons (tVar 5) (tCons (tCB (fun xs H Q => ∃ p ys, xs = [.ref p] ∧ ((SqL K H p ys ∧ ∀ l, H l = none → Q (.ref l) (upd H l (.tup ys))) ∨ (SqT K H p ys ∧ Q (.ref p) H))) (tCons (tVar 6) tNil)) tNil)))
        [some (.ref a), some (.ref sz), some (.ref l), some v, some (.ref fa), some (.ref q), some (.ref b), some (.ref D0), x8, x9, x10, x11] H9 Q := by
      intro H9 tm9 hm9 x8 x9 x10 x11
      refine ⟨_, rfl, _, rfl, b, bs, rfl, .inl ⟨SqL.of (tm9.lst eb8), fun a10 h10 => ⟨(by show 3 ≤ sizeLine; decide), fun a11 h11 => ?_⟩⟩⟩
      generalize d10 : upd H9 a10 _ = H10 at *
      obtain ⟨s10, e10⟩ := Same.eqn h10 d10
      have s11 := Same.new h11 (.tup [.str "ask", .ref q, .ref a10])
      have s911 := Same.trans s10 s11
      refine kq _ (.ask p (b0 :: BS')) _ (TM.trans tm08 (TM.trans tm9 (TM.of s911))) ((hm9.same s911).mono (by omega)) ?_ (.ask hp hBl hwf) fun f hf => ?_
      · show Ts _ _ _
        rw [tr_ask]
        exact .tup upd_same (.cons (.str _) (.cons (PlAt_mk (s911 _ _ (tm9.td _ _ hq8))) (.cons (.tup (s11 _ _ e10) (tsA_of (Paired.keep (F := TrAt) keeps_tr (TK.trans tm9.td (TK.of s911)) pt8))) .nil)))
      · have hfp : f p < (b0 :: BS').length := by rw [hBl]; exact hf p hp
        have hg := List.getElem?_eq_getElem hfp
        rw [ev_ask hg]
        exact hevp f hf _ hg
    refine ⟨_, rfl, _, rfl, ?_⟩
    by_cases hall : ∀ b ∈ b0 :: BS', b = b0
    · refine itT (decide_eq_true hall) ?_
      refine ⟨_, rfl, a, c, 3, n + 1 + m p.2 * C, rfl, hm8, by omega, by omega, by omega, fun r9 H9 hr9 tm9 hm9 => ⟨_, _, rfl, rfl, _, rfl, ?_⟩⟩
      by_cases h0 : (0 : Int) < (r9 : Int)
      · refine itT (decide_eq_true h0) ?_
        refine ⟨_, rfl, b, _, _, _, rfl, rfl, SqL.of (tm9.lst eb8), atI_nat (j := 0) hx0, ?_⟩
        refine kq x0 b0 H9 (TM.trans tm08 tm9) (hm9.mono (by omega)) (Ts.keep (TK.trans (TK.of s68) tm9.td) _ _ htx0) ((hwf b0 (List.mem_cons_self ..)).mono fun x hx => rem_sub hx) fun f hf => ?_
        have hfp : f p < (b0 :: BS').length := by rw [hBl]; exact hf p hp
        have hg := List.getElem?_eq_getElem hfp
        have h5 := hall _ (List.getElem_mem hfp)
        rw [h5] at hg
        exact hevp f hf b0 hg
      · exact itF (decide_eq_false h0) (hask H9 tm9 hm9 _ _ _ _)
    · exact itF (decide_eq_false hall) (itF rfl (hask H8 (TM.refl H8) (hm8.mono (by omega)) _ _ _ _))
end K16

set_option Elab.async false
set_option linter.all false
set_option maxRecDepth 100000
set_option maxHeartbeats 4000000
/-! The law's menu with places; begun. -/
namespace K16
open PySem PySem.Spec PyProof.Rows L2
open Classical
variable {P : Program} {w : World} {K : PySem.W.Frag} {mg : Str → Option Value} {base : Heap}

/-! ### displays of ints -/
def tInts (is : List Int) : TA := is.foldr (fun i t => tCons (tC (.int i)) t) tNil
theorem tInts_ok {σ : L2.St} {H : Hp} : ∀ (is : List Int) {Q : List V → Hp → Prop}, Q (is.map V.int) H → tInts is σ H Q
  | [], _, h => h
  | i :: is, Q, h => tInts_ok is (Q := fun xs H2 => Q (.int i :: xs) H2) h
def tTups (css : List (List Int)) : TA := css.foldr (fun cs t => tCons (tTup (tInts cs)) t) tNil
def TupAt (H : Hp) (v : V) (cs : List Int) : Prop := ∃ p, v = .ref p ∧ H p = some (.tup (cs.map V.int))
theorem keeps_tup : Keeps TupAt := fun _ _ _ _ k ⟨p, h1, h2⟩ => ⟨p, h1, k _ _ h2⟩
theorem tTups_ok {σ : L2.St} : ∀ (css : List (List Int)) {H : Hp} {Q : List V → Hp → Prop}, (∀ cs ∈ css, cs.length ≤ 1000) → (∀ vs H', Same H H' → Paired (TupAt H') vs css → Q vs H') → tTups css σ H Q
  | [], H, Q, _, h => h [] H (Same.refl H) .nil
  | cs :: css, H, Q, hl, h => by
    refine tInts_ok cs ⟨le_line (by rw [List.length_map]; have := hl cs (List.mem_cons_self ..); omega), fun p hp => ?_⟩
    have s1 := Same.new hp (.tup (cs.map V.int))
    refine tTups_ok css (fun x hx => hl x (List.mem_cons_of_mem _ hx)) fun vs H' s2 pt => h _ H' (Same.trans s1 s2) (.cons ⟨p, rfl, s2 _ _ upd_same⟩ pt)

/-! ### menu and places -/
def sizesN : List (List Nat) := [[2], [3], [2, 2], [2, 3], [2, 2, 2], [3, 2, 2], [9], [2, 9], [4, 5], [2, 2, 3, 2]]
def spotsN : List (List Nat) := [[0, 1, 2, 3], [0, 1, 2, 3], [0, 40, 199, 999999999999999999], [5, 6, 1000000, 1000000000]]
theorem sizes_ok : ∀ ss ∈ sizesN, 0 < ss.length ∧ ss.length ≤ 4 ∧ ∀ x ∈ ss, 2 ≤ x ∧ x ≤ 9 := by decide
theorem spots_ok : ∀ sp ∈ spotsN, sp.length = 4 ∧ ∀ y ∈ sp, y ∈ spots := by decide +kernel
theorem allPl_mem {y d : Nat} (hy : y ∈ spots) (hd : d < 4) : (y, d) ∈ allPl := by
  refine List.mem_flatMap.mpr ⟨y, hy, ?_⟩
  have : d = 0 ∨ d = 1 ∨ d = 2 ∨ d = 3 := by omega
  rcases this with rfl | rfl | rfl | rfl <;> simp
theorem prd_append (m : Nat → Nat) : ∀ (xs ys : List Pl), prd m (xs ++ ys) = prd m xs * prd m ys
  | [], ys => by rw [List.nil_append, prd, Nat.one_mul]
  | x :: xs, ys => by rw [List.cons_append, prd, prd, prd_append m xs ys, Nat.mul_assoc]
theorem prd_perm {m : Nat → Nat} {xs ys : List Pl} (h : xs.Perm ys) : prd m xs = prd m ys := by
  induction h with
  | nil => rfl
  | cons x _ ih => rw [prd, prd, ih]
  | swap x y l => rw [prd, prd, prd, prd, Nat.mul_left_comm]
  | trans _ _ i1 i2 => exact i1.trans i2
theorem any_pd {p : Pl} {L : List Pl} (hp : PlOk p) (hL : ∀ x ∈ L, PlOk x) : ((L.map pd).any fun z => PyData.eqv z (pd p)) = decide (p ∈ L) := by
  induction L with
  | nil => rfl
  | cons x L ih =>
    rw [List.map_cons, List.any_cons, ih fun y hy => hL y (List.mem_cons_of_mem _ hy), eqv_pd (hL x (List.mem_cons_self ..)) hp]
    by_cases h : x = p
    · subst h
      simp
    · rw [decide_eq_false h, Bool.false_or]
      have : p ∈ x :: L ↔ p ∈ L := ⟨fun z => (List.mem_cons.mp z).resolve_left fun e => h e.symm, List.mem_cons_of_mem _⟩
      simp [this]
abbrev sMe : Stmt := top 29
abbrev NMe : List Str := ["_law_m", "_law_most", "_law_sizes", "_law_spots", "_law_places", "_law_many", "_law_k", "_law_place"]
theorem scMe : FnScope NMe ["_law_m", "_law_most"] (defScope sMe) := ⟨rfl, rfl, rfl, by decide +kernel, rfl, by decide +kernel, by decide +kernel⟩
def spMe : Sp := fun vs H Q _ => ∃ (a c : Addr) (most n : Nat), vs = [.ref a, .int (most : Int)] ∧ MAt H a c n ∧ n ≤ 10000 ∧ most ≤ 5 ∧
  ∀ r s l m L H', TM H H' → MAt H' a c (n + 12) → H' r = some (.tup [.ref s, .ref l]) → SzAt H' s m → PlL H' l L → Menu m L → Q (.ref r) H'
theorem ok_me (D : Def K mg "_law_menu_places" sMe ["_law_m", "_law_most"]) (Z : Bi mg) (C__law_draw : Cal P w K mg base 1 "_law_draw" spDr) (C__law_of : Cal P w K mg base 2 "_law_of" spOf) : Cal P w K mg base 3 "_law_menu_places" spMe := by
  refine D.ok scMe (fun vs H Q E h => ?_) (fun f cdv A outer s H vs Q E hr h => ?_)
  · obtain ⟨a, c, most, n, rfl, _⟩ := h
    rfl
  obtain ⟨a, c, most, n, rfl, hm, hn, hmost, kq⟩ := h
  have hu64 := hr.units
  have hu65 : (A.deeper (envOfC (Str.ofString "_law_menu_places") (defScope sMe) s.heap.objs.size f cdv)).units + 65 < cLine := by have := hr.un; omega
  refine ⟨_, (pss_cons (ps_set (i := 2) scMe.nd rfl (Or.inl rfl) (pe_cal C__law_of (hr.mono (by omega)) (pa_cons (pv 0) (pa_cons (pe_lst (pa_cons (pe_tup (pa_cons pe_int pa_nil)) (pa_cons (pe_tup (pa_cons pe_int pa_nil)) (pa_cons (pe_tup (pa_cons pe_int (pa_cons pe_int pa_nil))) (pa_cons (pe_tup (pa_cons pe_int (pa_cons pe_int pa_nil))) (pa_cons (pe_tup (pa_cons pe_int (pa_cons pe_int (pa_cons pe_int pa_nil)))) (pa_cons (pe_tup (pa_cons pe_int (pa_cons pe_int (pa_cons pe_int pa_nil)))) (pa_cons (pe_tup (pa_cons pe_int pa_nil)) (pa_cons (pe_tup (pa_cons pe_int (pa_cons pe_int pa_nil))) (pa_cons (pe_tup (pa_cons pe_int (pa_cons pe_int pa_nil))) (pa_cons (pe_tup (pa_cons pe_int (pa_cons pe_int (pa_cons pe_int (pa_cons pe_int pa_nil))))) pa_nil))))))))))) pa_nil))))
    (pss_cons (ps_set (i := 3) scMe.nd rfl (Or.inl rfl) (pe_cal C__law_of (hr.mono (by omega)) (pa_cons (pv 0) (pa_cons (pe_lst (pa_cons (pe_lst (pa_cons pe_int (pa_cons pe_int (pa_cons pe_int (pa_cons pe_int pa_nil))))) (pa_cons (pe_lst (pa_cons pe_int (pa_cons pe_int (pa_cons pe_int (pa_cons pe_int pa_nil))))) (pa_cons (pe_lst (pa_cons pe_int (pa_cons pe_int (pa_cons pe_int (pa_cons (pe_op op_sub (pe_op op_pow pe_int pe_int) pe_int) pa_nil))))) (pa_cons (pe_lst (pa_cons pe_int (pa_cons pe_int (pa_cons (pe_op op_pow pe_int pe_int) (pa_cons (pe_op op_pow pe_int pe_int) pa_nil))))) pa_nil))))) pa_nil))))
    (pss_cons (ps_par (i := 4) (j := 5) (by rfl) scMe.nd rfl rfl (by decide) rfl rfl (pa_cons (pe_lst pa_nil) (pa_cons pe_int pa_nil)) (by rfl))
    (pss_cons (ps_for PassesOwn.never rfl (pi_range1 (by rfl) Z.range (pa_cons (pv 1) pa_nil)) (pg_name (i := 6) scMe.nd rfl (Or.inl rfl)) (pss_cons (ps_set (i := 7) scMe.nd rfl (Or.inl rfl) (pe_tup (pa_cons (pe_cal C__law_of (hr.mono (by omega)) (pa_cons (pv 0) (pa_cons (pv 3) pa_nil))) (pa_cons (pe_cal C__law_draw (hr.mono (by omega)) (pa_cons (pv 0) (pa_cons (pe_callB call_len_seq (by rfl) Z.len PySem.boot_len (pa_cons (pv 2) pa_nil)) pa_nil))) pa_nil))))
    (pss_one (ps_if (PW.pt (pw_and (pt_cmpR (op_notInD hu65) (pv 7) (pv 4) (by rfl)) (pw_and1 (pt_cmpR op_le (pe_op op_mul (pv 5) (pe_it (pv 2) (pe_it (pv 7) pe_int))) pe_int (nomark _))))) (pss_cons (ps_expr (pe_bm PySem.F.plainAttrs_list PySem.F.slot_list_append PySem.F.type_list_append mt_append (pv 4) (pa_cons (pv 7) pa_nil)))
    (pss_one (ps_set (i := 5) scMe.nd rfl (Or.inl rfl) (pe_op op_mul (pv 5) (pe_it (pv 2) (pe_it (pv 7) pe_int)))))) pss_nil))))
    (pss_one (ps_ret (pe_tup (pa_cons (pv 2) (pa_cons (pe_callB (cr_sortedD (enc := pd) hu64) (by rfl) Z.sorted (by decide +kernel) (pa_cons (pv 4) pa_nil)) pa_nil))))))))), ?_⟩
  refine ⟨_, rfl, ?_⟩
  refine tTups_ok (sizesN.map fun ss => ss.map fun (x : Nat) => (x : Int)) (by decide) fun vs1 H1 s1 pt1 => ?_
  have hv1 : vs1.length = 10 := by rw [Paired.len pt1]; rfl
  refine ⟨le_line (by omega), fun p1 h1 => ?_⟩
  generalize d2 : upd H1 p1 _ = H2 at *
  obtain ⟨s2, e2⟩ := Same.eqn h1 d2
  refine ⟨a, c, p1, n, vs1, rfl, hm.same (Same.trans s1 s2), by omega, e2, by omega, by omega, fun i x H3 hxi tm3 hm3 => ?_⟩
  obtain ⟨cs, hcs, sA, rfl, hsA⟩ := Paired.nth' pt1 hxi
  rw [List.getElem?_map] at hcs
  cases hss : sizesN[i]? with
  | none => rw [hss] at hcs; cases hcs
  | some ss =>
  rw [hss] at hcs
  have hcs := Option.some.inj hcs
  obtain ⟨hs1, hs2, hs3⟩ := sizes_ok ss (List.mem_of_getElem? hss)
  have hsz3 : H3 sA = some (.tup (ss.map fun (x : Nat) => V.int (x : Int))) := by
    have := tm3.td _ _ (s2 _ _ hsA)
    rw [← hcs, List.map_map] at this
    exact this
  have tm03 := TM.trans (TM.of (Same.trans s1 s2)) tm3
  refine ⟨_, rfl, (by show 4 ≤ sizeLine; decide), fun q1 g1 => ⟨(by show 4 ≤ sizeLine; decide), fun q2 g2 => ⟨10, 18, rfl, rfl, ⟨by decide, by decide, by decide⟩, _, 1, rfl, rfl, (by show 4 ≤ sizeLine; decide), fun q3 g3 => ⟨10, 6, rfl, rfl, ⟨by decide, by decide, by decide⟩, 10, 9, rfl, rfl, ⟨by decide, by decide, by decide⟩, (by show 4 ≤ sizeLine; decide), fun q4 g4 => ⟨(by show 4 ≤ sizeLine; decide), fun q5 g5 => ?_⟩⟩⟩⟩⟩
  generalize f1 : upd H3 q1 _ = G1 at *
  obtain ⟨t1, k1⟩ := Same.eqn g1 f1
  generalize f2 : upd G1 q2 _ = G2 at *
  obtain ⟨t2, k2⟩ := Same.eqn g2 f2
  generalize f3 : upd G2 q3 _ = G3 at *
  obtain ⟨t3, k3⟩ := Same.eqn g3 f3
  generalize f4 : upd G3 q4 _ = G4 at *
  obtain ⟨t4, k4⟩ := Same.eqn g4 f4
  generalize f5 : upd G4 q5 _ = G5 at *
  obtain ⟨t5, k5⟩ := Same.eqn g5 f5
  have t35 := Same.trans t1 (Same.trans t2 (Same.trans t3 (Same.trans t4 t5)))
  have hc3 : ((10 : Int) ^ (18 : Int).toNat - 1) = ((999999999999999999 : Nat) : Int) := by decide
  have hc4 : ((10 : Int) ^ (6 : Int).toNat) = ((1000000 : Nat) : Int) := by decide
  have hc5 : ((10 : Int) ^ (9 : Int).toNat) = ((1000000000 : Nat) : Int) := by decide
  refine ⟨a, c, q5, n + 1, _, rfl, hm3.same t35, by omega, k5, (by show 0 < 4; decide), (by show 4 ≤ 1000; decide), fun i' x' H6 hxi' tm6 hm6 => ?_⟩
  obtain ⟨sl, sp, rfl, hsl, hsp⟩ : ∃ sl sp, x' = .ref sl ∧ H6 sl = some (.lst (sp.map fun (x : Nat) => V.int (x : Int))) ∧ sp ∈ spotsN := by
    have hi4 : i' < 4 := (List.getElem?_eq_some_iff.mp hxi').1
    have : i' = 0 ∨ i' = 1 ∨ i' = 2 ∨ i' = 3 := by omega
    rcases this with rfl | rfl | rfl | rfl
    · exact ⟨q1, [0, 1, 2, 3], (Option.some.inj hxi').symm, tm6.lst (t5 _ _ (t4 _ _ (t3 _ _ (t2 _ _ k1)))), by decide⟩
    · exact ⟨q2, [0, 1, 2, 3], (Option.some.inj hxi').symm, tm6.lst (t5 _ _ (t4 _ _ (t3 _ _ k2))), by decide⟩
    · refine ⟨q3, [0, 40, 199, 999999999999999999], (Option.some.inj hxi').symm, ?_, by decide⟩
      have : H6 q3 = some (.lst [.int 0, .int 40, .int 199, .int ((10 : Int) ^ (18 : Int).toNat - 1)]) := tm6.lst (t5 _ _ (t4 _ _ k3))
      rw [hc3] at this
      exact this
    · refine ⟨q4, [5, 6, 1000000, 1000000000], (Option.some.inj hxi').symm, ?_, by decide⟩
      have : H6 q4 = some (.lst [.int 5, .int 6, .int ((10 : Int) ^ (6 : Int).toNat), .int ((10 : Int) ^ (9 : Int).toNat)]) := tm6.lst (t5 _ _ k4)
      rw [hc4, hc5] at this
      exact this
  obtain ⟨hsp1, hsp2⟩ := spots_ok sp hsp
  have tm36 := TM.trans (TM.of t35) tm6
  have tm06 := TM.trans tm03 tm36
  have hsz6 := tm36.td _ _ hsz3
  refine ⟨Nat.zero_le _, fun b hb => ⟨_, _, rfl, ?_⟩⟩
  have hbc := hm6.cell hb
  have hbs : b ≠ sl := (ne_som hsl hb).symm
  have sb := Same.new hb (.lst [])
  refine ⟨_, rfl, _, rfl, by omega, by omega, ?_⟩
  let m : Nat → Nat := fun i => ss.getD i 0
  have hmi : ∀ d, d < ss.length → 2 ≤ m d ∧ m d ≤ 9 := fun d hd => by
    have : m d = ss[d] := getD_at (List.getElem?_eq_getElem hd)
    rw [this]
    exact hs3 _ (List.getElem_mem hd)
  refine for_range (n := most) (fun e σ H7 => ∃ acc L x6 x7, σ = [some (.ref a), some (.int (most : Int)), some (.ref sA), some (.ref sl), some (.ref b), some (.int ((prd m L : Nat) : Int)), x6, x7] ∧ TM H6 H7 ∧ MAt H7 a c (n + 2 + 2 * e) ∧ H7 b = some (.lst acc) ∧ TsA H7 acc (L.map pd) ∧ L.Nodup ∧ (∀ p ∈ L, p ∈ allPl ∧ 2 ≤ m p.2) ∧ prd m L ≤ 300 ∧ L.length ≤ e)
    ⟨[], [], _, _, rfl, TM.of sb, (hm6.same sb).mono (by omega), upd_same, .nil, List.nodup_nil, fun p hp => absurd hp (by simp), (by show 1 ≤ 300; decide), Nat.le_refl _⟩ (fun e σ H7 he w => ?_) (fun σ H7 w => ?_)
  · obtain ⟨acc, L, x6, x7, hσ, tm7, hm7, eb, tL, hnd, hLp, hpr, hlen⟩ := w
    subst hσ
    refine ⟨_, rfl, _, rfl, a, c, sl, n + 2 + 2 * e, _, rfl, hm7, by omega, tm7.lst hsl, by rw [List.length_map]; omega, by rw [List.length_map]; omega, fun i8 x8 H8 hx8 tm8 hm8 => ?_⟩
    rw [List.getElem?_map] at hx8
    cases hy : sp[i8]? with
    | none => rw [hy] at hx8; cases hx8
    | some y =>
    rw [hy] at hx8
    have hx8 : V.int (y : Int) = x8 := Option.some.inj hx8
    subst hx8
    have hys := hsp2 y (List.mem_of_getElem? hy)
    have tm68 := TM.trans tm7 tm8
    have hsz8 := tm68.td _ _ hsz6
    refine ⟨_, rfl, _, rfl, sA, _, rfl, .inr (SqT.of hsz8), a, c, _, n + 2 + 2 * e + 1, rfl, hm8, by omega, by rw [List.length_map]; omega, by rw [List.length_map]; omega, fun d H9 hd tm9 hm9 => ⟨(by show 2 ≤ sizeLine; decide), fun pA hpA => ?_⟩⟩
    rw [List.length_map] at hd
    have hd : d < ss.length := by omega
    generalize d10 : upd H9 pA _ = H10 at *
    obtain ⟨s10, e10⟩ := Same.eqn hpA d10
    have tm710 := TM.trans tm8 (TM.trans tm9 (TM.of s10))
    have tm610 := TM.trans tm7 tm710
    have hm10 := hm9.same s10
    have eb10 := tm710.lst eb
    have hsz10 := tm610.td _ _ hsz6
    have tL10 := TsA.keep tm710.td _ _ tL
    have hpa : (y, d) ∈ allPl := allPl_mem hys (by omega)
    have hpo := allPl_ok _ hpa
    have hLo : ∀ p ∈ L, PlOk p := fun p hp => allPl_ok p (hLp p hp).1
    have hgd : (ss.map fun (x : Nat) => V.int (x : Int))[d]? = some (.int ((m d : Nat) : Int)) := by
      rw [List.getElem?_map]
      have h1 : ss[d]? = some ss[d] := List.getElem?_eq_getElem hd
      have h2 : m d = ss[d] := getD_at h1
      rw [h1, h2]
      rfl
    obtain ⟨hm2, hm9'⟩ := hmi d hd
    refine ⟨_, rfl, _, rfl, pd (y, d), L.map pd, Ts.dp _ _ (PlAt_mk e10), .lst (SqL.of eb10) (TsA.dp _ _ tL10), shaped_pd hpo, shaped_pds hLo, _, rfl, ?_⟩
    rw [any_pd hpo hLo]
    by_cases hin : (y, d) ∈ L
    · refine itF (by rw [decide_eq_true hin]; rfl) (itF rfl ?_)
      exact ⟨acc, L, _, _, rfl, tm610, hm10.mono (by omega), eb10, tL10, hnd, hLp, hpr, by omega⟩
    refine itT (by rw [decide_eq_false hin]; rfl) ?_
    refine ⟨_, rfl, _, rfl, _, rfl, pA, _, _, _, rfl, rfl, SqT.of e10, rfl, sA, _, _, _, rfl, rfl, SqT.of hsz10, atI_nat hgd, ((prd m L : Nat) : Int), ((m d : Nat) : Int), rfl, rfl, .inl (by omega), _, 300, rfl, rfl, _, rfl, ?_⟩
    have hprn : prd m (L ++ [(y, d)]) = prd m L * m d := by
      rw [prd_append]
      show prd m L * (m d * 1) = _
      rw [Nat.mul_one]
    have hcast : ((prd m L : Nat) : Int) * ((m d : Nat) : Int) = ((prd m (L ++ [(y, d)]) : Nat) : Int) := by
      rw [hprn, Int.natCast_mul]
    rw [hcast]
    by_cases hle : ((prd m (L ++ [(y, d)]) : Nat) : Int) ≤ 300
    · refine itT (decide_eq_true hle) ?_
      have hal : acc.length = L.length := by rw [tL.length, List.length_map]
      refine ⟨_, rfl, ty_l eb10, _, rfl, b, _, _, rfl, rfl, eb10, lt_line (by omega), ?_⟩
      have k11 : TK H10 (upd H10 b (.lst (acc ++ [.ref pA]))) := TK.lst eb10 _
      refine ⟨_, rfl, _, rfl, _, rfl, pA, _, _, _, rfl, rfl, SqT.of (k11 _ _ e10), rfl, sA, _, _, _, rfl, rfl, SqT.of (k11 _ _ hsz10), atI_nat hgd, ((prd m L : Nat) : Int), ((m d : Nat) : Int), rfl, rfl, .inl (by omega), ?_⟩
      refine ⟨acc ++ [.ref pA], L ++ [(y, d)], some (.int (0 + (e : Nat))), some (.ref pA), ?_, TM.fresh tm610 hb _, (hm10.lst eb10 hbc _).mono (by omega), upd_same, ?_, nodup_snoc hnd hin, fun p hp => ?_, by omega, by rw [List.length_append, List.length_singleton]; omega⟩
      · rw [← hcast]
        rfl
      · rw [List.map_append]
        exact TsA.append (TsA.keep k11 _ _ tL10) (.cons (PlAt_mk (k11 _ _ e10)) .nil)
      · rcases List.mem_append.mp hp with h | h
        · exact hLp p h
        · rw [List.mem_singleton.mp h]
          exact ⟨hpa, hm2⟩
    · refine itF (decide_eq_false hle) ?_
      exact ⟨acc, L, _, _, rfl, tm610, hm10.mono (by omega), eb10, tL10, hnd, hLp, hpr, by omega⟩
  · obtain ⟨acc, L, x6, x7, hσ, tm7, hm7, eb, tL, hnd, hLp, hpr, hlen⟩ := w
    subst hσ
    refine ⟨_, rfl, _, rfl, b, acc, L, rfl, .inl (SqL.of eb), tL, ?_, ?_, ?_, fun p8 ys8 h8 ty8 => ⟨(by show 2 ≤ sizeLine; decide), fun p9 h9 => ?_⟩⟩
    · intro d hd d' hd'
      obtain ⟨x, _, rfl⟩ := List.mem_map.mp hd
      obtain ⟨y, _, rfl⟩ := List.mem_map.mp hd'
      rfl
    · exact .inl fun d hd => by
        obtain ⟨x, _, rfl⟩ := List.mem_map.mp hd
        exact ⟨_, _, rfl⟩
    · intro x _
      rw [depth_pd]
      omega
    · generalize d8 : upd H7 p8 _ = H8 at *
      obtain ⟨s8, e8⟩ := Same.eqn h8 d8
      have s9 := Same.new h9 (.tup [.ref sA, .ref p8])
      have s79 := Same.trans s8 s9
      have hperm := List.mergeSort_perm L (PySem.W.dataLe false pd)
      refine kq p9 sA p8 m (L.mergeSort (PySem.W.dataLe false pd)) _ (TM.trans tm06 (TM.trans tm7 (TM.of s79))) ((hm7.same s79).mono (by omega)) upd_same ⟨ss, s79 _ _ (tm7.td _ _ hsz6), rfl⟩ ⟨ys8, s9 _ _ e8, TsA.keep (TK.of s79) _ _ ty8⟩ ⟨sort_asc hnd, fun p hp => (hLp p (sort_mem.mp hp)).2, fun p hp => (hLp p (sort_mem.mp hp)).1, by rw [prd_perm hperm]; exact hpr, by rw [hperm.length_eq]; omega⟩

/-! ### begun -/
theorem cutV_map (ns : List Int) (lo hi : Option Int) : ∃ ms : List Int, cutV (ns.map V.int) lo hi = ms.map V.int ∧ ms.length ≤ ns.length := by
  refine ⟨(ns.drop (HT.sIx (ns.map V.int).length 0 lo)).take (HT.sIx (ns.map V.int).length (ns.map V.int).length hi - HT.sIx (ns.map V.int).length 0 lo), ?_, ?_⟩
  · unfold cutV
    rw [List.map_take, List.map_drop]
  · rw [List.length_take, List.length_drop]
    omega
theorem int_at {ns : List Int} {i : Nat} {x : V} (h : (ns.map V.int)[i]? = some x) : ∃ j : Int, x = .int j := by
  rw [List.getElem?_map] at h
  cases e : ns[i]? with
  | none => rw [e] at h; cases h
  | some j => rw [e] at h; exact ⟨j, (Option.some.inj h).symm⟩
abbrev sBe : Stmt := top 26
abbrev NBe : List Str := ["_law_script", "_law_k", "_law_cells", "_law_cell", "_law_great", "_law_begun_here", "_law_left"]
theorem scBe : FnScope NBe ["_law_script", "_law_k"] (defScope sBe) := ⟨rfl, rfl, rfl, by decide +kernel, rfl, by decide +kernel, by decide +kernel⟩
def spBe (K : PySem.W.Frag) : Sp := fun vs H Q _ => ∃ (a : Addr) (ns : List Int) (k : Nat), vs = [.ref a, .int (k : Int)] ∧ SqL K H a (ns.map V.int) ∧ ns.length ≤ 63 ∧ k ≤ 1 ∧ ∀ r c H', Same H H' → MAt H' r c 0 → Q (.ref r) H'
theorem SqL.same {K : PySem.W.Frag} {H H' : Hp} {a : Addr} {xs : List V} (h : SqL K H a xs) (s : Same H H') : SqL K H' a xs := by
  rcases h with h | h
  · rcases h with h | ⟨o, h⟩
    · exact .inl (.inl (s _ _ h))
    · exact .inl (.inr ⟨o, s _ _ h⟩)
  · exact .inr h
theorem ok_be (D : Def K mg "_law_begun" sBe ["_law_script", "_law_k"]) (Z : Bi mg) : Cal P w K mg base 1 "_law_begun" (spBe K) := by
  refine D.ok scBe (fun vs H Q E h => ?_) (fun f cdv A outer s H vs Q E hr h => ?_)
  · obtain ⟨a, ns, k, rfl, _⟩ := h
    rfl
  obtain ⟨a, ns, k, rfl, hS, hn, hk, kq⟩ := h
  refine ⟨_, (pss_cons (ps_set (i := 2) scBe.nd rfl (Or.inl rfl) (pe_op op_cat (pe_slice sl_list (pv 0) (po_some (pv 1)) po_none) (pe_slice sl_list (pv 0) po_none (po_some (pv 1)))))
    (pss_cons (ps_setLc (i := 4) (own := [("_law_cell", 3)]) (g := gName 3) rfl scBe.nd rfl rfl (sw_true rfl rfl rfl (by decide +kernel)) (pi_list (pv 0)) (blkOk_by (own := [("_law_cell", 3)]) (N := NBe) (sc := defScope sBe) (by decide +kernel)) (fun _ _ _ _ _ => (pg_name (i := 3) scBe.nd rfl (Or.inl rfl))) (fun _ _ _ _ _ => by exact (pts_one (pt_cmpR op_ge (pv 3) (pe_op op_pow pe_int pe_int) (nomark _)))) (fun _ _ _ _ _ => by exact (pv 3)))
    (pss_cons (ps_set (i := 5) scBe.nd rfl (Or.inl rfl) (pe_op op_add pe_int (pe_op op_mul pe_int (pv 1))))
    (pss_cons (ps_for PassesOwn.never rfl (pi_list (pv 2)) (pg_name (i := 3) scBe.nd rfl (Or.inl rfl)) (pss_one (ps_set (i := 5) scBe.nd rfl (Or.inl rfl) (pe_op op_mod (pe_callTy call_int1 (by rfl) Z.int (by decide +kernel) (pa_cons (pe_op op_add (pe_op op_mul (pv 5) pe_int) (pv 3)) pa_nil)) pe_int))))
    (pss_cons (ps_set (i := 6) scBe.nd rfl (Or.inl rfl) (pe_ifExp (pt_cmpR op_lt (pv 1) (pe_callB call_len_seq (by rfl) Z.len PySem.boot_len (pa_cons (pv 4) pa_nil)) (nomark _)) (pe_il (pv 4) (pv 1)) pe_int))
    (pss_one (ps_ret (pe_disp (pps_cons pe_str (pv 6) (pps_cons pe_str (pv 5) (pps_cons pe_str (pe_op op_cat (pv 2) (pe_lst (pa_cons (pe_op op_add (pe_op op_mul pe_int (pv 1)) pe_int) pa_nil))) (pps_cons pe_str pe_int (pps_cons pe_str pe_int (pps_cons pe_str pe_int pps_nil)))))) (by rfl) (by rfl) (fun z => by cases z) (by decide))))))))), ?_⟩
  obtain ⟨m1, hc1, hl1⟩ := cutV_map ns (some (k : Int)) none
  obtain ⟨m2, hc2, hl2⟩ := cutV_map ns none (some (k : Int))
  refine ⟨_, rfl, _, rfl, (k : Int), rfl, a, _, rfl, hS, fun p1 h1 => ?_⟩
  generalize d1 : upd H p1 _ = H1 at *
  obtain ⟨s1, e1⟩ := Same.eqn h1 d1
  refine ⟨_, rfl, _, rfl, (k : Int), rfl, a, _, rfl, SqL.same hS s1, fun p2 h2 => ?_⟩
  generalize d2 : upd H1 p2 _ = H2 at *
  obtain ⟨s2, e2⟩ := Same.eqn h2 d2
  rw [hc1] at e1
  rw [hc2] at e2
  refine ⟨p1, p2, _, _, rfl, rfl, s2 _ _ e1, e2, le_line (by rw [List.length_map, List.length_map]; omega), fun p3 h3 => ?_⟩
  rw [← List.map_append]
  generalize d3 : upd H2 p3 _ = H3 at *
  obtain ⟨s3, e3⟩ := Same.eqn h3 d3
  have s03 := Same.trans s1 (Same.trans s2 s3)
  have hcl : (m1 ++ m2).length ≤ 126 ∧ True := ⟨by rw [List.length_append]; omega, trivial⟩
  generalize m1 ++ m2 = cs at *
  refine ⟨_, rfl, a, rfl, ⟨_, SqL.same hS s03⟩, fun D0 hD0 => ?_⟩
  refine lc_list (fun i H4 => Same H3 H4 ∧ ∃ gs : List Int, H4 D0 = some (.lst (gs.map V.int)) ∧ gs.length ≤ i) ⟨Same.new hD0 _, [], upd_same, Nat.le_refl _⟩ (fun i H4 _ w => SqL.same hS (Same.trans s03 w.1)) (fun i x H4 hx w => ?_) (fun H4 w => ?_)
  · obtain ⟨s4, gs, eD, hg⟩ := w
    obtain ⟨z, rfl⟩ := int_at hx
    have hi := (List.getElem?_eq_some_iff.mp hx).1
    rw [List.length_map] at hi
    refine ⟨rfl, _, rfl, 10, 18, rfl, rfl, ⟨by decide, by decide, by decide⟩, _, _, rfl, rfl, _, rfl, ?_⟩
    by_cases hz : (10 : Int) ^ (18 : Int).toNat ≤ z
    · refine itT (decide_eq_true hz) ⟨_, rfl, _, eD, lt_line (by rw [List.length_map]; omega), Same.lst s4 hD0, gs ++ [z], ?_, by rw [List.length_append, List.length_singleton]; omega⟩
      rw [upd_same, List.map_append]
      rfl
    · exact itF (decide_eq_false hz) ⟨s4, gs, eD, by omega⟩
  · obtain ⟨s4, gs, eD, hg⟩ := w
    rw [List.length_map] at hg
    refine ⟨_, rfl, 10, _, rfl, rfl, .inl (by omega), 83, _, rfl, rfl, ?_⟩
    have e34 := s4 _ _ e3
    refine ⟨_, rfl, p3, rfl, ⟨_, SqL.of e34⟩, ?_⟩
    refine for_list (xs := cs.map V.int) (fun i σ H5 => ∃ b x3, σ = [some (.ref a), some (.int (k : Int)), some (.ref p3), x3, some (.ref D0), some (.int b), none] ∧ Same H4 H5 ∧ 0 ≤ b ∧ b < 2147483647) ⟨_, _, rfl, Same.refl _, by omega, by omega⟩ (fun i σ H5 _ ⟨b, x3, hσ, s5, hb⟩ => SqL.of (s5 _ _ e34)) (fun i x σ H5 hx ⟨b, x3, hσ, s5, hb0, hb1⟩ => ?_) (fun σ H5 ⟨b, x3, hσ, s5, hb0, hb1⟩ => ?_)
    · subst hσ
      obtain ⟨z, rfl⟩ := int_at hx
      refine ⟨_, rfl, b, 48271, rfl, rfl, .inr (by omega), _, rfl, _, z, rfl, rfl, .inl ⟨_, rfl, _, 2147483647, rfl, rfl, by omega, ?_⟩⟩
      exact ⟨(b * 48271 + z) % 2147483647, _, rfl, s5, Int.emod_nonneg _ (by omega), Int.emod_lt_of_pos _ (by omega)⟩
    · subst hσ
      have eD5 := s5 _ _ eD
      have hcontL : ∀ left : Int, tRet (tDisp [(tC (.str "left"), tVar 6), (tC (.str "seed"), tVar 5), (tC (.str "cells"), tOp rCat (tVar 2) (tLst (tCons (tOp (rI0 fun i j => V.int (i + j)) (tOp (rI CMul fun i j => V.int (i * j)) (tC (.int 29)) (tVar 1)) (tC (.int 17))) tNil))), (tC (.str "spot"), tC (.int 0)), (tC (.str "next"), tC (.int 0)), (tC (.str "quants"), tC (.int 3))])
          { nx := fun _ H' => Q .non H', rt := Q } [some (.ref a), some (.int (k : Int)), some (.ref p3), x3, some (.ref D0), some (.int b), some (.int left)] H5 := by
        intro left
        refine fun p6 h6 => ⟨_, rfl, _, rfl, _, rfl, _, rfl, 29, _, rfl, rfl, .inl (by omega), _, 17, rfl, rfl, (by show 1 ≤ sizeLine; decide), fun p7 h7 => ?_⟩
        generalize d6 : upd H5 p6 _ = H6 at *
        obtain ⟨s6, e6⟩ := Same.eqn h6 d6
        generalize d7 : upd H6 p7 _ = H7 at *
        obtain ⟨s7, e7⟩ := Same.eqn h7 d7
        have s57 := Same.trans s6 s7
        refine ⟨p3, p7, _, _, rfl, rfl, s57 _ _ (s5 _ _ e34), e7, le_line (by rw [List.length_map]; simp; omega), fun p8 h8 => ?_⟩
        generalize d8 : upd H7 p8 _ = H8 at *
        obtain ⟨s8, e8⟩ := Same.eqn h8 d8
        refine ⟨s8 _ _ (s7 _ _ e6), mKeys left b p8 0, rfl, (by show 6 ≤ 15; decide), ?_⟩
        have hmk : mergeK [] (mKeys left b p8 0) = mKeys left b p8 0 := by rfl
        rw [hmk]
        have s58 : Same H5 (upd H8 p6 (.dK (mKeys left b p8 0))) := Same.lst (Same.trans s57 s8) h6
        refine kq p6 p8 _ (Same.trans s03 (Same.trans s4 (Same.trans s5 s58))) ⟨left, b, 0, cs ++ [29 * (k : Int) + 17], upd_same, ?_, by simp, by rw [List.length_append, List.length_singleton]; omega, hb0, hb1, Nat.le_refl _⟩
        refine upd_at ?_ (ne_of e8 (s8 _ _ (s7 _ _ e6)) (fun z => nomatch z))
        rw [e8, List.map_append]
        rfl
      refine ⟨_, rfl, _, rfl, D0, _, rfl, .inl (SqL.of eD5), (k : Int), _, rfl, rfl, _, rfl, ?_⟩
      by_cases hkl : (k : Int) < ((gs.map V.int).length : Int)
      · refine itT (decide_eq_true hkl) ?_
        have hk2 : k < (gs.map V.int).length := by omega
        have hg2 : (gs.map V.int)[k]? = some (gs.map V.int)[k] := List.getElem?_eq_getElem hk2
        obtain ⟨z, hz⟩ := int_at hg2
        rw [hz] at hg2
        exact ⟨_, rfl, _, rfl, D0, _, _, _, rfl, rfl, SqL.of eD5, atI_nat hg2, hcontL z⟩
      · exact itF (decide_eq_false hkl) (hcontL 0)
end K16

set_option Elab.async false
set_option linter.all false
set_option maxRecDepth 100000
set_option maxHeartbeats 4000000
/-! The law's shared. -/
namespace K16
open PySem PySem.Spec PyProof.Rows L2
open Classical
variable {P : Program} {w : World} {K : PySem.W.Frag} {mg : Str → Option Value} {base : Heap}
def PlN : Nd → Prop
  | .fin _ => True
  | .ask p _ => PlOk p
theorem ins_pl {x : Nd} {ns : List Nd} (hx : PlN x) (h : ∀ y ∈ ns, PlN y) : ∀ y ∈ (ins x ns).2, PlN y := by
  unfold ins
  split
  · exact h
  · intro y hy
    rcases List.mem_append.mp hy with hy | hy
    · exact h y hy
    · rw [List.mem_singleton.mp hy]; exact hx
theorem sh_pl (t : Tr) : ∀ ns, TrOk t → (∀ y ∈ ns, PlN y) → ∀ y ∈ (sh t ns).2, PlN y := by
  refine Tr.ind (motive := fun t => ∀ ns, TrOk t → (∀ y ∈ ns, PlN y) → ∀ y ∈ (sh t ns).2, PlN y) (fun v ns _ h => ?_) (fun p bs ih ns ht h => ?_) t
  · rw [sh]; exact ins_pl (x := .fin v) trivial h
  · rw [sh]
    refine ins_pl (x := .ask p (shs bs ns).1) ht.root ?_
    have key : ∀ (cs : List Tr) (ns : List Nd), (∀ b ∈ cs, b ∈ bs) → (∀ y ∈ ns, PlN y) → ∀ y ∈ (shs cs ns).2, PlN y := by
      intro cs
      induction cs with
      | nil => intro ns _ h; exact h
      | cons c cs ihc =>
        intro ns hc h
        rw [shs]
        exact ihc _ (fun b hb => hc b (List.mem_cons_of_mem _ hb)) (ih c (hc c (List.mem_cons_self ..)) ns (ht.child (hc c (List.mem_cons_self ..))) h)
    exact key bs ns (fun b hb => hb) h
theorem shs_snoc : ∀ (bs : List Tr) (b : Tr) (ns : List Nd), shs (bs ++ [b]) ns = ((shs bs ns).1 ++ [(sh b (shs bs ns).2).1], (sh b (shs bs ns).2).2)
  | [], b, ns => by rw [List.nil_append, shs, shs, shs]; rfl
  | c :: bs, b, ns => by
    rw [List.cons_append, shs, shs_snoc bs b, shs]
    rfl
theorem shs_len (bs : List Tr) : ∀ ns, (shs bs ns).2.length ≤ ns.length + nds bs := by
  induction bs with
  | nil => intro ns; exact Nat.le_refl _
  | cons b bs ih =>
    intro ns
    have h1 := ih (sh b ns).2
    have h2 := sh_len b ns
    rw [shs, nds]
    dsimp only
    omega
theorem nds_take : ∀ (bs : List Tr) (i : Nat) (b : Tr), bs[i]? = some b → nds (bs.take i) + nd b ≤ nds bs
  | c :: bs, 0, b, h => by
    rw [List.getElem?_cons_zero] at h
    cases h
    rw [List.take_zero, nds, nds]; omega
  | c :: bs, i + 1, b, h => by
    rw [List.getElem?_cons_succ] at h
    have := nds_take bs i b h
    rw [List.take_succ_cons, nds, nds]; omega
/-- nodes whose data are nice -/
def NsOk (ns : List Nd) : Prop := Ok ns ∧ (∀ y ∈ ns, PlN y) ∧ ns.length ≤ 5000
theorem nice_nD {x : Nd} (hp : PlN x) (hk : ∀ p ks, x = .ask p ks → ∀ k ∈ ks, k < 5000) : nice (nD x) = true := by
  cases x with
  | fin v =>
    refine niceAll_mem.mpr fun y hy => ?_
    rcases List.mem_cons.mp hy with rfl | hy
    · decide +kernel
    · rw [List.mem_singleton.mp hy]; exact nice_vd v
  | ask p ks =>
    refine niceAll_mem.mpr fun y hy => ?_
    rcases List.mem_cons.mp hy with rfl | hy
    · decide +kernel
    rcases List.mem_cons.mp hy with rfl | hy
    · exact nice_pd hp
    · rw [List.mem_singleton.mp hy]
      refine niceAll_mem.mpr fun z hz => ?_
      obtain ⟨k, hk', rfl⟩ := List.mem_map.mp hz
      have := hk p ks rfl k hk'
      exact nice_int (by omega)
theorem depth_nD (x : Nd) : (nD x).depth ≤ 2 := by
  cases x with
  | fin v =>
    have := depth_vd v
    rw [show nD (.fin v) = .tuple [.str "end", vd v] from rfl, depth_tuple]
    have h : PyData.depthAll [.str "end", vd v] ≤ 1 := depthAll_le fun x hx => by
      rcases List.mem_cons.mp hx with rfl | hx
      · exact Nat.zero_le _
      · rw [List.mem_singleton.mp hx]; exact this
    omega
  | ask p ks =>
    rw [show nD (.ask p ks) = .tuple [.str "ask", pd p, .tuple (ks.map fun (k : Nat) => PyData.int (k : Int))] from rfl, depth_tuple]
    have h : PyData.depthAll [.str "ask", pd p, .tuple (ks.map fun (k : Nat) => PyData.int (k : Int))] ≤ 1 := depthAll_le fun x hx => by
      rcases List.mem_cons.mp hx with rfl | hx
      · exact Nat.zero_le _
      rcases List.mem_cons.mp hx with rfl | hx
      · rw [depth_pd]; exact Nat.le_refl _
      · rw [List.mem_singleton.mp hx, depth_tuple]
        have h2 : PyData.depthAll (ks.map fun (k : Nat) => PyData.int (k : Int)) ≤ 0 := depthAll_le fun y hy => by
          obtain ⟨k, _, rfl⟩ := List.mem_map.mp hy
          exact Nat.le_refl _
        omega
    omega
theorem NsOk.nice {ns : List Nd} (h : NsOk ns) : ∀ x ∈ ns, nice (nD x) = true := fun x hx => by
  refine nice_nD (h.2.1 x hx) fun p ks e k hk => ?_
  obtain ⟨j, hj⟩ := List.getElem?_of_mem hx
  rw [e] at hj
  have h1 := h.1.below j p ks hj k hk
  have h2 := (List.getElem?_eq_some_iff.mp hj).1
  have h3 := h.2.2
  omega
theorem NsOk.nices {ns : List Nd} (h : NsOk ns) : ∀ x ∈ ns.map nD, K16.nice x = true := fun x hx => by
  obtain ⟨y, hy, rfl⟩ := List.mem_map.mp hx
  exact h.nice y hy
theorem NsOk.shaped {ns : List Nd} (h : NsOk ns) : SeqAt.shaped (.list (ns.map nD)) = true := shaped_list h.nices fun x hx => by
  obtain ⟨y, _, rfl⟩ := List.mem_map.mp hx
  have := depth_nD y
  omega
theorem shaped_nD {x : Nd} (h : nice (nD x) = true) : SeqAt.shaped (nD x) = true := nice_shaped h (by have := depth_nD x; omega)
theorem eqv_nD {x y : Nd} (hx : nice (nD x) = true) (hy : nice (nD y) = true) : PyData.eqv (nD x) (nD y) = decide (x = y) := by
  by_cases h : x = y
  · subst h
    rw [(nice_eqv _ _ hx hx).mpr rfl, decide_eq_true rfl]
  · rw [decide_eq_false h]
    cases e : PyData.eqv (nD x) (nD y) with
    | false => rfl
    | true => exact absurd (nD_inj ((nice_eqv _ _ hx hy).mp e)) h
theorem any_nD {x : Nd} {ns : List Nd} (hx : nice (nD x) = true) (h : ∀ y ∈ ns, nice (nD y) = true) : ((ns.map nD).any fun z => PyData.eqv z (nD x)) = decide (x ∈ ns) := by
  induction ns with
  | nil => rfl
  | cons y ns ih =>
    rw [List.map_cons, List.any_cons, ih fun z hz => h z (List.mem_cons_of_mem _ hz), eqv_nD (h y (List.mem_cons_self ..)) hx]
    by_cases e : y = x
    · subst e
      simp
    · rw [decide_eq_false e, Bool.false_or]
      have : x ∈ y :: ns ↔ x ∈ ns := ⟨fun z => (List.mem_cons.mp z).resolve_left fun e' => e e'.symm, List.mem_cons_of_mem _⟩
      simp [this]
abbrev sHs : Stmt := top 36
abbrev NHs : List Str := ["_law_tree_here", "_law_nodes", "_law_node", "_law_branch"]
theorem scHs : FnScope NHs ["_law_tree_here", "_law_nodes"] (defScope sHs) := ⟨rfl, rfl, rfl, by decide +kernel, rfl, by decide +kernel, by decide +kernel⟩
def spHs (j : Nat) : Sp := fun vs H Q _ => ∃ (v : V) (l : Addr) (ys : List V) (t : Tr) (ns : List Nd), vs = [v, .ref l] ∧ TrAt H v t ∧ H l = some (.lst ys) ∧ TsA H ys (ns.map nD) ∧ NsOk ns ∧ ns.length + nd t ≤ 2000 ∧ TrOk t ∧ dp t < j ∧
  ∀ H' ys', SameBut [l] H H' → H' l = some (.lst ys') → TsA H' ys' ((sh t ns).2.map nD) → Q (.int ((sh t ns).1 : Nat)) H'
theorem ins_at (x : Nd) (ns : List Nd) : (ins x ns).2[(ins x ns).1]? = some x := by
  unfold ins
  split
  · rename_i h
    have h1 := List.idxOf_lt_length_of_mem h
    rw [List.getElem?_eq_getElem h1, List.getElem_idxOf h1]
  · simp
theorem tail_hs {D : Ends} {σ : L2.St} {H : Hp} {l : Addr} {v : V} {ys : List V} {ns : List Nd} {x : Nd} (hD : ∀ y H', D.rt y H' = D.rt y H') (h1 : σ[1]? = some (some (.ref l))) (h2 : σ[2]? = some (some v)) (el : H l = some (.lst ys)) (ty : TsA H ys (ns.map nD)) (hv : Ts H v (nD x)) (hn : NsOk ns) (hx : nice (nD x) = true) (hns : (ins x ns).2.Nodup) (hlen : ns.length ≤ 4000)
    (hk : ∀ H' ys', SameBut [l] H H' → H' l = some (.lst ys') → TsA H' ys' ((ins x ns).2.map nD) → D.rt (.int ((ins x ns).1 : Nat)) H') :
    tSeq (tIfS (tTest (tOp (rNotInD K) (tVar 2) (tVar 1))) (tDrop (tBM K "list" rAppend (tVar 1) (tCons (tVar 2) tNil))) tNext) (tRet (tBM K "list" (rIndexD K) (tVar 1) (tCons (tVar 2) tNil))) D σ H := by
  have hyl : ys.length = ns.length := by rw [ty.length, List.length_map]
  refine ⟨_, h2, _, h1, nD x, ns.map nD, Ts.dp _ _ hv, .lst (SqL.of el) (TsA.dp _ _ ty), shaped_nD hx, hn.shaped, _, rfl, ?_⟩
  rw [any_nD hx hn.nice]
  have hat := ins_at x ns
  have idx : ∀ H' ys', H' l = some (.lst ys') → TsA H' ys' ((ins x ns).2.map nD) → Ts H' v (nD x) → (∀ y ∈ (ins x ns).2, nice (nD y) = true) → D.rt (.int ((ins x ns).1 : Nat)) H' → tRet (tBM K "list" (rIndexD K) (tVar 1) (tCons (tVar 2) tNil)) D σ H' := by
    intro H' ys' el' ty' hv' hn' q
    have hsh : SeqAt.shaped (.list ((ins x ns).2.map nD)) = true := shaped_list (fun z hz => by
      obtain ⟨y, hy, rfl⟩ := List.mem_map.mp hz
      exact hn' y hy) fun z hz => by
      obtain ⟨y, _, rfl⟩ := List.mem_map.mp hz
      have := depth_nD y
      omega
    refine ⟨_, h1, ty_l el', _, h2, l, v, nD x, (ins x ns).2.map nD, (ins x ns).1, nD x, rfl, rfl, .lst (SqL.of el') (TsA.dp _ _ ty'), Ts.dp _ _ hv', hsh, shaped_nD hx, ?_, ?_, fun m z hm hz => ?_, q⟩
    · rw [List.getElem?_map, hat]; rfl
    · exact (nice_eqv _ _ hx hx).mpr rfl
    · rw [List.getElem?_map] at hz
      cases e : (ins x ns).2[m]? with
      | none => rw [e] at hz; cases hz
      | some y =>
        rw [e] at hz
        have hz := Option.some.inj hz
        rw [← hz, eqv_nD (hn' y (List.mem_of_getElem? e)) hx]
        refine decide_eq_false fun z => ?_
        rw [z] at e
        have := nodup_at hns e hat
        omega
  have hnice : ∀ y ∈ (ins x ns).2, nice (nD y) = true := by
    unfold ins
    split
    · exact hn.nice
    · intro y hy
      rcases List.mem_append.mp hy with hy | hy
      · exact hn.nice y hy
      · rw [List.mem_singleton.mp hy]; exact hx
  by_cases hin : x ∈ ns
  · refine itF (by rw [decide_eq_true hin]; rfl) ?_
    have e2 : (ins x ns).2 = ns := by unfold ins; rw [if_pos hin]
    exact idx H ys el (by rw [e2]; exact ty) hv hnice (hk H ys (SameBut.refl _ _) el (by rw [e2]; exact ty))
  · refine itT (by rw [decide_eq_false hin]; rfl) ?_
    have e2 : (ins x ns).2 = ns ++ [x] := by unfold ins; rw [if_neg hin]
    refine ⟨_, h1, ty_l el, _, h2, l, _, _, rfl, rfl, el, lt_line (by omega), ?_⟩
    have k3 : TK H (upd H l (.lst (ys ++ [v]))) := TK.lst el _
    have hv3 := Ts.keep k3 _ _ hv
    have t3 : TsA (upd H l (.lst (ys ++ [v]))) (ys ++ [v]) ((ins x ns).2.map nD) := by
      rw [e2, List.map_append]
      exact TsA.append (TsA.keep k3 _ _ ty) (.cons hv3 .nil)
    exact idx _ _ upd_same t3 hv3 hnice (hk _ _ (SameBut.put (SameBut.refl _ _) (by simp)) upd_same t3)
theorem ok_hs (D : Def K mg "_law_shared" sHs ["_law_tree_here", "_law_nodes"]) (Z : Bi mg) : ∀ j, Cal P w K mg base (0 + j) "_law_shared" (spHs j) := by
  refine D.recur spHs (fun vs H Q E ⟨v, l, ys, t, ns, _, _, _, _, _, _, _, h, _⟩ => nomatch h) fun j C__law_shared => ?_
  refine D.ok scHs (fun vs H Q E h => ?_) (fun f cdv A outer s H vs Q E hr h => ?_)
  · obtain ⟨v, l, ys, t, ns, rfl, _⟩ := h
    rfl
  obtain ⟨v, l, ys, t, ns, rfl, ht, el, ty, hok, hlen, hto, hj, kq⟩ := h
  have hu65 : (A.deeper (envOfC (Str.ofString "_law_shared") (defScope sHs) s.heap.objs.size f cdv)).units + 65 < cLine := by have := hr.un; omega
  refine ⟨_, (pss_cons (ps_set (i := 2) scHs.nd rfl (Or.inl rfl) (pv 0))
    (pss_cons (ps_if (pt_cmpR op_eq (pe_it (pv 0) pe_int) pe_str (nomark _)) (pss_one (ps_set (i := 2) scHs.nd rfl (Or.inl rfl) (pe_tup (pa_cons pe_str (pa_cons (pe_it (pv 0) pe_int) (pa_cons (pe_callTy call_tuple_of (by rfl) Z.tuple (by decide +kernel) (pa_cons (pe_lc (own := [("_law_branch", 3)]) (g := gName 3) (tt := tYes) rfl scHs.nd (pi_tup (pe_it (pv 0) pe_int)) (blkOk_by (own := [("_law_branch", 3)]) (N := NHs) (sc := defScope sHs) (by decide +kernel)) (fun _ _ _ _ _ => (pg_name (i := 3) scHs.nd rfl (Or.inl rfl))) (fun _ _ _ _ _ => by exact pts_nil) (fun _ _ _ _ _ => by exact (pe_cal C__law_shared (hr.mono (by omega)) (pa_cons (pv 3) (pa_cons (pv 1) pa_nil))))) pa_nil)) pa_nil)))))) pss_nil)
    (pss_cons (ps_if (pt_cmpR (op_notInD hu65) (pv 2) (pv 1) (by rfl)) (pss_one (ps_expr (pe_bm PySem.F.plainAttrs_list PySem.F.slot_list_append PySem.F.type_list_append mt_append (pv 1) (pa_cons (pv 2) pa_nil)))) pss_nil)
    (pss_one (ps_ret (pe_bm PySem.F.plainAttrs_list PySem.F.slot_list_index PySem.F.type_list_index (mt_indexD hu65) (pv 1) (pa_cons (pv 2) pa_nil))))))), ?_⟩
  refine ⟨_, rfl, ?_⟩
  have hgood := sh_good t ns hok.1
  cases t with
  | fin u =>
    obtain ⟨p, x, rfl, e, hx⟩ := ht.fin
    refine ⟨_, rfl, p, _, _, _, rfl, rfl, SqT.of e, rfl, rfl, _, rfl, itF dec_end_ask ?_⟩
    refine tail_hs (K := K) (x := .fin u) (fun _ _ => rfl) rfl rfl el ty ht hok (nice_nD trivial fun p ks e => nomatch e) ?_ (by omega) fun H' ys' sb e' t' => ?_
    · have := hgood.1.1.nodup
      rw [sh] at this
      exact this
    · exact kq H' ys' sb e' t'
  | ask p bs =>
    obtain ⟨p1, r1, b1, xs, rfl, e, er, eb, tb⟩ := ht.ask
    have hxs : xs.length = bs.length := by rw [tb.length, List.length_map]
    have hndb : nd (.ask p bs) = 1 + nds bs := rfl
    have hdpb : dp (.ask p bs) = 1 + dps bs := rfl
    have hbn := nds_len bs
    refine ⟨_, rfl, p1, _, _, _, rfl, rfl, SqT.of e, rfl, rfl, _, rfl, itT (dec_same _) ?_⟩
    refine ⟨_, rfl, p1, _, _, _, rfl, rfl, SqT.of e, rfl, _, rfl, p1, _, _, _, rfl, rfl, SqT.of e, rfl, b1, rfl, ⟨_, SqT.of eb⟩, fun D0 hD0 => ?_⟩
    have hDl : D0 ≠ l := (ne_som el hD0).symm
    have hgs := fun i => (shs_good (bs.take i) ns hok.1).1
    refine lc_tup (xs := xs) (fun i H' => ∃ ys', SameBut [l] H H' ∧ H' l = some (.lst ys') ∧ TsA H' ys' ((shs (bs.take i) ns).2.map nD) ∧ (∀ y ∈ (shs (bs.take i) ns).2, PlN y) ∧ H' D0 = some (.lst ((shs (bs.take i) ns).1.map fun (k : Nat) => V.int (k : Int)))) ⟨ys, SameBut.putN (SameBut.refl _ _) hD0, upd_at el (ne_som el hD0), TsA.keep (TK.new hD0 _) _ _ ty, hok.2.1, upd_same⟩ (fun i H' hi ⟨ys', sb, _⟩ => SqT.of (sb _ _ (fun z => ne_of eb el (fun z => nomatch z) (List.mem_singleton.mp z)) eb)) (fun i x H' hxi w => ?_) (fun H' w => ?_)
    · obtain ⟨ys', sb, el', ty', hpl, eD⟩ := w
      obtain ⟨b, hb, hxb⟩ := Paired.nth' (of_tsA tb) hxi
      have hbm := List.mem_of_getElem? hb
      have hk : TK H H' := SameBut.tk sb (fun a ha => by rw [List.mem_singleton.mp ha]; exact noTup_l el)
      have h1 := shs_len (bs.take i) ns
      have h2 := nds_take bs i b hb
      have hsn := shs_snoc (bs.take i) b ns
      rw [← take_one hb] at hsn
      refine ⟨rfl, itT (B := True) rfl ⟨_, rfl, _, rfl, x, l, ys', b, (shs (bs.take i) ns).2, rfl, Ts.keep hk _ _ hxb, el', ty', ⟨(hgs i).1, hpl, by omega⟩, by omega, hto.child hbm, ?_, fun H5 ys5 sb5 el5 ty5 => ?_⟩⟩
      · have := dps_mem hbm
        omega
      · have eD5 := sb5 _ _ (fun z => hDl (List.mem_singleton.mp z)) eD
        have hn5 : (shs (bs.take i) ns).1.length ≤ 2000 := by rw [shs_klen, List.length_take]; omega
        have k6 : TK H5 (upd H5 D0 (.lst ((shs (bs.take i) ns).1.map (fun (k : Nat) => V.int (k : Int)) ++ [V.int ((sh b (shs (bs.take i) ns).2).1 : Nat)]))) := TK.lst eD5 _
        refine ⟨_, eD5, lt_line (by rw [List.length_map]; omega), ys5, SameBut.putN (SameBut.trans sb sb5) hD0, upd_at el5 (Ne.symm hDl), ?_, ?_, ?_⟩
        · rw [hsn]
          exact TsA.keep k6 _ _ ty5
        · rw [hsn]
          exact sh_pl b _ (hto.child hbm) hpl
        · rw [upd_same, hsn, List.map_append]
          rfl
    · obtain ⟨ys', sb, el', ty', hpl, eD⟩ := w
      rw [hxs, List.take_length] at ty' hpl eD
      have hgs := (shs_good bs ns hok.1).1
      have h1 := shs_len bs ns
      have hk : TK H H' := SameBut.tk sb (fun a ha => by rw [List.mem_singleton.mp ha]; exact noTup_l el)
      refine ⟨D0, _, rfl, .inl ⟨SqL.of eD, fun a6 ha6 => ⟨(by show 3 ≤ sizeLine; decide), fun a7 ha7 => ?_⟩⟩⟩
      generalize d6 : upd H' a6 _ = H6 at *
      obtain ⟨s6, e6⟩ := Same.eqn ha6 d6
      generalize d7 : upd H6 a7 _ = H7 at *
      obtain ⟨s7, e7⟩ := Same.eqn ha7 d7
      have s67 := Same.trans s6 s7
      have hnode : Ts H7 (.ref a7) (nD (.ask p (shs bs ns).1)) := by
        refine .tup e7 (.cons (.str _) (.cons (PlAt_mk (s67 _ _ (hk _ _ er))) (.cons (.tup (s7 _ _ e6) ?_) .nil)))
        have := TsA.ints (H := H7) ((shs bs ns).1.map fun (k : Nat) => (k : Int))
        rw [List.map_map, List.map_map] at this
        exact this
      have hok7 : NsOk (shs bs ns).2 := ⟨hgs.1, hpl, by omega⟩
      have hgok : Ok (ins (.ask p (shs bs ns).1) (shs bs ns).2).2 := by
        have := hgood.1.1
        rw [sh] at this
        exact this
      have hxn : nice (nD (.ask p (shs bs ns).1)) = true := by
        refine nice_nD (show PlOk p from hto.root) fun p' ks' e' k hk' => ?_
        cases e'
        have h9 := ins_at (.ask p (shs bs ns).1) (shs bs ns).2
        have h10 := hgok.below _ _ _ h9 k hk'
        have h11 := (List.getElem?_eq_some_iff.mp h9).1
        have h12 := ins_len (.ask p (shs bs ns).1) (shs bs ns).2
        omega
      refine tail_hs (K := K) (x := .ask p (shs bs ns).1) (fun _ _ => rfl) rfl rfl (s67 _ _ el') (TsA.keep (TK.of s67) _ _ ty') hnode hok7 hxn hgok.nodup (by omega) fun H8 ys8 sb8 el8 ty8 => ?_
      have := kq H8 ys8 (SameBut.trans sb (SameBut.trans (SameBut.of s67) sb8)) el8 (by rw [sh]; exact ty8)
      rw [sh] at this
      exact this
end K16

set_option Elab.async false
set_option linter.all false
set_option maxRecDepth 100000
set_option maxHeartbeats 4000000
/-! The texts of marks tell the marks. -/
namespace K16
open PySem PySem.Spec PyProof.Rows L2
def txt (d : PyData) : List Nat := d.shown.cps.toList
def tok : Va → List Nat
  | .z => [48]
  | .o => [49]
  | .zo => [40, 48, 44, 32, 49, 41]
  | .zz => [40, 48, 44, 32, 48, 41]
theorem txt_vd : ∀ v : Va, txt (vd v) = tok v
  | .z => by decide +kernel
  | .o => by decide +kernel
  | .zo => by decide +kernel
  | .zz => by decide +kernel
def tl : List Va → List Nat
  | [] => [93, 93]
  | v :: vs => 44 :: 32 :: (tok v ++ tl vs)
def encV : List Va → List Nat
  | [] => [93, 93]
  | v :: vs => tok v ++ tl vs
theorem tok_inj {v u : Va} {a b : List Nat} (h : tok v ++ a = tok u ++ b) : v = u ∧ a = b := by
  cases v <;> cases u <;> simp [tok] at h ⊢ <;> exact h
theorem tl_inj : ∀ {vs us : List Va}, tl vs = tl us → vs = us
  | [], [], _ => rfl
  | [], _ :: _, h => by simp [tl] at h
  | _ :: _, [], h => by simp [tl] at h
  | v :: vs, u :: us, h => by
    rw [tl, tl] at h
    obtain ⟨h1, h2⟩ := tok_inj (List.cons.inj (List.cons.inj h).2).2
    rw [h1, tl_inj h2]
theorem encV_inj : ∀ {vs us : List Va}, encV vs = encV us → vs = us
  | [], [], _ => rfl
  | [], u :: us, h => by cases u <;> simp [encV, tok] at h
  | v :: vs, [], h => by cases v <;> simp [encV, tok] at h
  | v :: vs, u :: us, h => by
    rw [encV, encV] at h
    obtain ⟨h1, h2⟩ := tok_inj h
    rw [h1, tl_inj h2]
theorem join_txt : ∀ (v : Va) (vs : List Va), (Str.join ", " (PyData.shownAll ((v :: vs).map vd))).cps.toList ++ [93, 93] = tok v ++ tl vs
  | v, [] => by
    rw [List.map_cons, List.map_nil, PyData.shownAll_cons, PyData.shownAll_nil, join_one]
    show txt (vd v) ++ _ = _
    rw [txt_vd]
    rfl
  | v, u :: us => by
    rw [List.map_cons, List.map_cons, PyData.shownAll_cons, PyData.shownAll_cons, join_cons_cons, cps_toList_append, cps_toList_append, List.append_assoc]
    have ih := join_txt u us
    rw [List.map_cons, PyData.shownAll_cons] at ih
    rw [ih, tl]
    show txt (vd v) ++ _ ++ _ = _
    rw [txt_vd, List.append_assoc]
    have hc : (", " : Str).cps.toList = [44, 32] := by decide +kernel
    rw [hc]
    rfl
theorem list_txt (vs : List Va) : txt (.list (vs.map vd)) ++ [93] = 91 :: encV vs := by
  have h1 : ("[" : Str).cps.toList = [91] := by decide +kernel
  have h2 : ("]" : Str).cps.toList = [93] := by decide +kernel
  rw [txt, PyData.shown_list, cps_toList_append, cps_toList_append, h1, h2, List.append_assoc, List.append_assoc]
  show 91 :: _ = _
  congr 1
  cases vs with
  | nil =>
    rw [List.map_nil, PyData.shownAll_nil, join_nil]
    have : (Str.empty).cps.toList = [] := by decide +kernel
    rw [this]
    rfl
  | cons v vs => exact join_txt v vs
/-- what a mark is told as -/
def kD : Option Pl → PyData
  | none => .str "end"
  | some p => pd p
def mD (x : Mark) : PyData := .list [kD x.1, .list (x.2.map vd)]
theorem mD_txt (x : Mark) : txt (mD x) = 91 :: (txt (kD x.1) ++ 44 :: 32 :: 91 :: encV x.2) := by
  have h1 : ("[" : Str).cps.toList = [91] := by decide +kernel
  have h2 : ("]" : Str).cps.toList = [93] := by decide +kernel
  have hc : (", " : Str).cps.toList = [44, 32] := by decide +kernel
  have h := list_txt x.2
  rw [txt] at h
  rw [txt, mD, PyData.shown_list, PyData.shownAll_cons, PyData.shownAll_cons, PyData.shownAll_nil, join_cons_cons, join_one, cps_toList_append, cps_toList_append, cps_toList_append, cps_toList_append, h1, h2, hc, List.append_assoc, List.append_assoc, h]
  show 91 :: _ = _
  rw [List.append_assoc]
  rfl
def kinds : List (Option Pl) := none :: allPl.map some
def kT (k : Option Pl) : List Nat := txt (kD k) ++ [44, 32, 91]
theorem kT_apart : ∀ a ∈ kinds, ∀ b ∈ kinds, (kT a).isPrefixOf (kT b) = true → a = b := by decide +kernel
theorem kinds_mem {x : Option Pl} (h : ∀ p, x = some p → p ∈ allPl) : x ∈ kinds := by
  cases x with
  | none => exact List.mem_cons_self ..
  | some p => exact List.mem_cons_of_mem _ (List.mem_map_of_mem (h p rfl))
theorem pre_of {a b x y : List Nat} (h : a ++ x = b ++ y) : a.isPrefixOf b = true ∨ b.isPrefixOf a = true := by
  have h1 : a <+: b ++ y := ⟨x, h⟩
  have h2 : b <+: b ++ y := ⟨y, rfl⟩
  rcases Nat.le_total a.length b.length with hl | hl
  · exact .inl (List.isPrefixOf_iff_prefix.mpr (List.prefix_of_prefix_length_le h1 h2 hl))
  · exact .inr (List.isPrefixOf_iff_prefix.mpr (List.prefix_of_prefix_length_le h2 h1 hl))
theorem mD_inj {x y : Mark} (hx : ∀ p, x.1 = some p → p ∈ allPl) (hy : ∀ p, y.1 = some p → p ∈ allPl) (h : (mD x).shown = (mD y).shown) : x = y := by
  have h : txt (mD x) = txt (mD y) := by rw [txt, txt, h]
  rw [mD_txt, mD_txt] at h
  have h := (List.cons.inj h).2
  have e : ∀ z : Mark, txt (kD z.1) ++ 44 :: 32 :: 91 :: encV z.2 = kT z.1 ++ encV z.2 := fun z => by rw [kT, List.append_assoc]; rfl
  rw [e, e] at h
  have h1 : x.1 = y.1 := by
    rcases pre_of h with hp | hp
    · exact kT_apart _ (kinds_mem hx) _ (kinds_mem hy) hp
    · exact (kT_apart _ (kinds_mem hy) _ (kinds_mem hx) hp).symm
  rw [h1] at h
  have h2 := encV_inj (List.append_cancel_left h)
  exact Prod.ext h1 h2
end K16

set_option Elab.async false
set_option linter.all false
set_option maxRecDepth 100000
set_option maxHeartbeats 4000000
/-! hangs. -/
namespace K16
open PySem PySem.Spec PyProof.Rows L2
open Classical
variable {P : Program} {w : World} {K : PySem.W.Frag} {mg : Str → Option Value} {base : Heap}

/-! ### values of all fillings -/
theorem lc_vals {K0 : PySem.W.Frag} {i j : Nat} {vs : List Nat} {σ : L2.St} {H1 : Hp} {D a0 : Addr} {xs : List V} {v : V} {m : Nat → Nat} {L0 : List Pl} {t : Tr} {ks : List Kf} {fs : List (Pl → Nat)} {Qd : Hp → Prop} (hD : H1 D = none) (e : H1 a0 = some (.lst xs)) (px : Paired (KnV H1) xs ks)
    (pf : Paired (fun k f => ∀ q ∈ L0, k q = some (f q) ∧ f q < m q.2) ks fs) (ht : TrAt H1 v t) (hw : Wf m L0 t) (hl : fs.length ≤ 300) (h1 : ∀ x : V, wipe ((wipe σ vs).set j (some x)) vs = wipe σ vs) (h2 : ∀ x : V, ((wipe σ vs).set j (some x))[i]? = some (some v)) (h3 : ∀ x : V, ((wipe σ vs).set j (some x))[j]? = some (some x))
    (hd : ∀ H acc, Same H1 H → H D = some (.lst acc) → TsA H acc ((fs.map (ev t)).map vd) → Qd H) :
    ∃ W : Nat → Nat → Hp → Prop, (∃ m, W 0 m (upd H1 D (.lst []))) ∧ ∀ i' m H, W i' m H →
      ((Itl K0 a0).stop i' H ∧ Qd H) ∨ ((Itl K0 a0).go i' H ∧ ∃ Nx : Hp → Prop, (∀ H', Nx H' → ∃ m', m' < m ∧ W (i' + 1) m' H') ∧ ∀ x H', (Itl K0 a0).yld i' H x H' → gName j x (wipe σ vs) H' fun σ2 H2 => wipe σ2 vs = wipe σ vs ∧ tYes σ2 H2 fun b H3 =>
        if b = true then tCal spVa (tCons (tVar i) (tCons (tVar j) tNil)) σ2 H3 fun y H4 => ∃ acc, H4 D = some (.lst acc) ∧ acc.length < sizeLine ∧ Nx (upd H4 D (.lst (acc ++ [y]))) else Nx H3) := by
  have hxl : xs.length = fs.length := by rw [Paired.len px, Paired.len pf]
  refine lc_listM (F := fun H v (x : Va) => Ts H v (vd x)) (keeps_ts vd).d (fs.map (ev t)) (by rw [List.length_map, hxl]) (by omega) hD e (fun i' x H5 z hx hz s5 Q5 hq5 => ⟨h1 _, ?_⟩) (fun H5 acc s5 eD hacc => hd H5 acc s5 eD (Paired.tsA (Paired.mapR (f := vd) hacc)))
  obtain ⟨k, hk, a, rfl, hka⟩ := Paired.nth' px hx
  obtain ⟨f, hf, hkf⟩ := Paired.nth' pf hk
  rw [List.getElem?_map, hf] at hz
  have hz : ev t f = z := Option.some.inj hz
  exact ⟨_, h2 _, _, h3 _, v, a, t, m, L0, k, f, rfl, Ts.keep (TK.of s5) _ _ ht, hka.same s5, hw, fun q hq => (hkf q hq).1, fun q hq => (hkf q hq).2, fun r hr => hq5 r H5 (Same.refl _) (by rw [← hz]; exact hr)⟩
theorem filK_cov {m : Nat → Nat} {L D L0 : List Pl} {k : Kf} {r : Pl → Nat} (h : Agr m D k r) (hc : ∀ p ∈ L0, p ∈ D ∨ p ∈ L) : Paired (fun k f => ∀ q ∈ L0, k q = some (f q) ∧ f q < m q.2) (filK m L k) (fil m L r) := Paired.imp (filK_agr L h) fun _ _ hkf q hq => hkf q (hc q hq)

/-! ### hangs -/
/-- a list of values that is not the list b -/
def VlB (b : Addr) (H : Hp) (v : V) (vs : List Va) : Prop := ∃ a ys, v = .ref a ∧ a ≠ b ∧ H a = some (.lst ys) ∧ TsA H ys (vs.map vd)
theorem VlB.same {b : Addr} {H H' : Hp} (s : Same H H') {v : V} {vs : List Va} (h : VlB b H v vs) : VlB b H' v vs := let ⟨a, ys, h1, h2, h3, h4⟩ := h; ⟨a, ys, h1, h2, s _ _ h3, TsA.keep (TK.of s) _ _ h4⟩
theorem VlB.put {b : Addr} {H : Hp} {xs : List V} (e : H b = some (.lst xs)) (o : HO) {v : V} {vs : List Va} (h : VlB b H v vs) : VlB b (upd H b o) v vs := let ⟨a, ys, h1, h2, h3, h4⟩ := h; ⟨a, ys, h1, h2, upd_at h3 h2, TsA.keep (TK.lst e _) _ _ h4⟩
def tabD (vs : List Va) : PyData := .list (vs.map vd)
theorem vds_inj : ∀ {vs us : List Va}, vs.map vd = us.map vd → vs = us
  | [], [], _ => rfl
  | [], _ :: _, h => by cases h
  | _ :: _, [], h => by cases h
  | v :: vs, u :: us, h => by
    obtain ⟨h1, h2⟩ := List.cons.inj h
    rw [vd_inj h1, vds_inj h2]
theorem tabD_inj {vs us : List Va} (h : tabD vs = tabD us) : vs = us := vds_inj (PyData.list.inj h)
theorem nice_tab (vs : List Va) : nice (tabD vs) = true := niceAll_mem.mpr fun x hx => by
  obtain ⟨v, _, rfl⟩ := List.mem_map.mp hx
  exact nice_vd v
theorem depth_tab (vs : List Va) : (tabD vs).depth ≤ 2 := by
  rw [tabD, depth_list]
  have : PyData.depthAll (vs.map vd) ≤ 1 := depthAll_le fun x hx => by
    obtain ⟨v, _, rfl⟩ := List.mem_map.mp hx
    exact depth_vd v
  omega
theorem dp_vlb {b : Addr} {H : Hp} : ∀ {vs : List V} {ts : List (List Va)}, Paired (VlB b H) vs ts → DpAll K H vs (ts.map tabD)
  | _, _, .nil => .nil
  | _, _, .cons ⟨a, ys, h1, h2, h3, h4⟩ t => .cons (by rw [h1]; exact .lst (SqL.of h3) (TsA.dp _ _ h4)) (dp_vlb t)
theorem nice_tabs (ts : List (List Va)) : ∀ x ∈ ts.map tabD, nice x = true := fun x hx => by
  obtain ⟨v, _, rfl⟩ := List.mem_map.mp hx
  exact nice_tab v
theorem depth_tabs (ts : List (List Va)) : ∀ x ∈ ts.map tabD, x.depth ≤ 50 := fun x hx => by
  obtain ⟨v, _, rfl⟩ := List.mem_map.mp hx
  have := depth_tab v
  omega
theorem paired_repl {α : Type} {F : V → α → Prop} {x : V} {b : α} (h : F x b) : ∀ n, Paired F (List.replicate n x) (List.replicate n b)
  | 0 => .nil
  | n + 1 => .cons h (paired_repl h n)
abbrev sHa : Stmt := top 38
abbrev NHa : List Str := ["_law_sizes", "_law_left", "_law_tree_here", "_law_known", "_law_tables", "_law_d", "_law_more", "_law_filling"]
theorem scHa : FnScope NHa ["_law_sizes", "_law_left", "_law_tree_here", "_law_known"] (defScope sHa) := ⟨rfl, rfl, rfl, by decide +kernel, rfl, by decide +kernel, by decide +kernel⟩
def spHa : Sp := fun vs H Q _ => ∃ (s l a : Addr) (v : V) (m : Nat → Nat) (p : Pl) (L D L0 : List Pl) (t : Tr) (k : Kf) (r : Pl → Nat), vs = [.ref s, .ref l, v, .ref a] ∧ SzAt H s m ∧ PlL H l (p :: L) ∧ TrAt H v t ∧ KnAt H a k ∧ Lok m (p :: L) ∧ Wf m L0 t ∧ Agr m D k r ∧ (∀ q ∈ L0, q ∈ D ∨ q ∈ p :: L) ∧
  ∀ H', Same H H' → Q (.bl (decide (Hangs m (p :: L) (ev t) r))) H'
theorem ok_ha (D : Def K mg "_law_hangs" sHa ["_law_sizes", "_law_left", "_law_tree_here", "_law_known"]) (Z : Bi mg) (C__law_value : Cal P w K mg base 1 "_law_value" spVa) (C__law_fillings : Cal P w K mg base 1 "_law_fillings" spFi) : Cal P w K mg base 2 "_law_hangs" spHa := by
  refine D.ok scHa (fun vs H Q E h => ?_) (fun f cdv A outer s H vs Q E hr h => ?_)
  · obtain ⟨s, l, a, v, m, p, L, D, L0, t, k, r, rfl, _⟩ := h
    rfl
  obtain ⟨sz, l, a, v, m, p, L, D, L0, t, k, r, rfl, hsz, ⟨ys, el, ty⟩, ht, hk, M, hw, hag, hcov, kq⟩ := h
  have hu := hu_of hr
  have hu64 := hr.units
  refine ⟨_, (pss_cons (ps_set (i := 4) scHa.nd rfl (Or.inl rfl) (pe_lst pa_nil))
    (pss_cons (ps_for PassesOwn.never rfl (pi_range1 (by rfl) Z.range (pa_cons (pe_it (pv 0) (pe_it (pe_il (pv 1) pe_int) pe_int)) pa_nil)) (pg_name (i := 5) scHa.nd rfl (Or.inl rfl)) (pss_cons (ps_set (i := 6) scHa.nd rfl (Or.inl rfl) (pe_callTy (cr_copyT hu64) (by rfl) Z.dict (by decide +kernel) (pa_cons (pv 3) pa_nil)))
    (pss_cons (ps_dput hu (pv 6) (pe_il (pv 1) pe_int) (pv 5) rfl)
    (pss_one (ps_expr (pe_bm PySem.F.plainAttrs_list PySem.F.slot_list_append PySem.F.type_list_append mt_append (pv 4) (pa_cons (pe_lc (own := [("_law_filling", 7)]) (g := gName 7) (tt := tYes) rfl scHa.nd (pi_list (pe_cal C__law_fillings (hr.mono (by omega)) (pa_cons (pv 0) (pa_cons (pe_slice sl_list (pv 1) (po_some pe_int) po_none) (pa_cons (pv 6) pa_nil))))) (blkOk_by (own := [("_law_filling", 7)]) (N := NHa) (sc := defScope sHa) (by decide +kernel)) (fun _ _ _ _ _ => (pg_name (i := 7) scHa.nd rfl (Or.inl rfl))) (fun _ _ _ _ _ => by exact pts_nil) (fun _ _ _ _ _ => by exact (pe_cal C__law_value (hr.mono (by omega)) (pa_cons (pv 2) (pa_cons (pv 7) pa_nil))))) pa_nil)))))))
    (pss_one (ps_ret (pe_cmpR (op_neD hu64) (pv 4) (pe_op op_rep (pe_lst (pa_cons (pe_il (pv 4) pe_int) pa_nil)) (pe_callB call_len_seq (by rfl) Z.len PySem.boot_len (pa_cons (pv 4) pa_nil))) (nomark _)))))), ?_⟩
  have hpm := M.pos p (List.mem_cons_self ..)
  have hpn := (List.nodup_cons.mp M.nd).1
  have hrem : rem (p :: L) p = L := rem_cons_self hpn
  obtain ⟨MR, hm300, hprd, hprR⟩ := M.rem (List.mem_cons_self ..)
  rw [hrem] at MR hprd hprR
  obtain ⟨q, hq0, hq⟩ := pl_of (i := 0) (p := p) ty rfl
  obtain ⟨xss, ess, hss⟩ := hsz.get hpm
  refine ⟨Nat.zero_le _, fun b hb => ?_⟩
  generalize d2 : upd H b _ = H2 at *
  obtain ⟨s2, e2⟩ := Same.eqn hb d2
  refine ⟨_, rfl, _, rfl, l, _, _, _, rfl, rfl, SqL.of (s2 _ _ el), atI_nat (j := 0) hq0, q, _, _, _, rfl, rfl, SqT.of (s2 _ _ hq), rfl, sz, _, _, _, rfl, rfl, SqT.of (s2 _ _ ess), atI_nat hss, ?_⟩
  refine ⟨_, rfl, by omega, by omega, ?_⟩
  let tabOf : Nat → List (List Va) := fun e => (List.range e).map fun d => (fil m L (st r p d)).map (ev t)
  refine for_range (n := m p.2) (fun e σ H3 => ∃ zs x5 x6, σ = [some (.ref sz), some (.ref l), some v, some (.ref a), some (.ref b), x5, x6, none] ∧ Same H H3 ∧ H3 b = some (.lst zs) ∧ Paired (VlB b H3) zs (tabOf e)) ⟨[], _, _, rfl, s2, e2, .nil⟩ (fun e σ H3 he ⟨zs, x5, x6, hσ, s3, eb, pt⟩ => ?_) (fun σ H3 ⟨zs, x5, x6, hσ, s3, eb, pt⟩ => ?_)
  · subst hσ
    rw [Int.zero_add]
    obtain ⟨ps, eps, hpk, htl⟩ := hk.same s3
    have hpa := M.ok p (List.mem_cons_self ..)
    refine ⟨_, rfl, a, ps, rfl, eps, hpk, fun a7 h7 => ?_⟩
    generalize d7 : upd H3 a7 _ = H7 at *
    obtain ⟨s7, e7⟩ := Same.eqn h7 d7
    have s07 := Same.trans s3 s7
    refine ⟨_, rfl, _, rfl, _, rfl, l, _, _, _, rfl, rfl, SqL.of (s07 _ _ el), atI_nat (j := 0) hq0, a7, _, rfl, PD_put e7 hpk (s07 _ _ hq), ?_⟩
    have s8 : Same H3 (upd H7 a7 (.dT ((putP ps p (.int (e : Int))).map pkv))) := Same.lst s7 h7
    have e8 : upd H7 a7 (.dT ((putP ps p (.int (e : Int))).map pkv)) a7 = some _ := upd_same
    generalize upd H7 a7 (.dT ((putP ps p (.int (e : Int))).map pkv)) = H8 at *
    have hk8 : KnAt H8 a7 (kst k p e) := ⟨_, e8, hpk.put hpa _, htl.put p e⟩
    have s08 := Same.trans s3 s8
    have eb8 := s8 _ _ eb
    refine ⟨_, rfl, ty_l eb8, _, rfl, _, rfl, 1, rfl, l, ys, rfl, SqL.of (s08 _ _ el), fun a9 h9 => ?_⟩
    have ecut : cutV ys (some 1) none = ys.drop 1 := cut_from (k := 1) (by rw [ty.length]; simp)
    rw [ecut]
    generalize d9 : upd H8 a9 _ = H9 at *
    obtain ⟨s9, e9⟩ := Same.eqn h9 d9
    have s09 := Same.trans s08 s9
    have hty9 : TsA H9 (ys.drop 1) (L.map pd) := by
      cases ty with
      | cons _ ty' => exact TsA.keep (TK.of s09) _ _ ty'
    refine ⟨_, rfl, sz, a9, a7, m, L, kst k p e, rfl, hsz.tk (TK.of s09), ⟨_, e9, hty9⟩, hk8.same s9, fun x hx => ⟨MR.ok x hx, MR.pos x hx⟩, MR.prd, fun r5 xs5 H5 s5 er5 px5 => ⟨r5, rfl, ⟨_, SqL.of er5⟩, fun D1 hD1 => ?_⟩⟩
    have s35 := Same.trans s8 (Same.trans s9 s5)
    have s05 := Same.trans s3 s35
    have hDb : D1 ≠ b := (ne_som (s35 _ _ eb) hD1).symm
    refine lc_vals (fs := fil m L (st r p e)) hD1 er5 px5 (filK_cov (D := p :: D) (hag.put he) fun x hx => ?_) (Ts.keep (TK.of s05) _ _ ht) hw (by rw [fil_length]; exact MR.prd) (fun _ => rfl) (fun _ => rfl) (fun _ => rfl) fun H6 acc s6 eD ta => ?_
    · rcases hcov x hx with h | h
      · exact .inl (List.mem_cons_of_mem _ h)
      · rcases List.mem_cons.mp h with h | h
        · exact .inl (by rw [h]; exact List.mem_cons_self ..)
        · exact .inr h
    · have s36 := Same.trans s35 s6
      have eb6 := s36 _ _ eb
      have hzl : zs.length = e := by rw [Paired.len pt]; simp [tabOf]
      refine ⟨b, _, _, rfl, rfl, eb6, lt_line (by omega), ?_⟩
      refine ⟨_, _, _, rfl, Same.lst (Same.trans s3 s36) hb, upd_same, ?_⟩
      show Paired _ _ ((List.range (e + 1)).map _)
      rw [List.range_succ, List.map_append]
      exact Paired.snoc (Paired.imp pt fun _ _ h => VlB.put eb6 _ (VlB.same s36 h)) (VlB.put eb6 _ ⟨D1, acc, rfl, hDb, eD, ta⟩)
  · subst hσ
    have htl : (tabOf (m p.2)).length = m p.2 := by simp [tabOf]
    have hzl : zs.length = m p.2 := by rw [Paired.len pt, htl]
    have hhang : Hangs m (p :: L) (ev t) r ↔ ¬ ∀ x ∈ tabOf (m p.2), x = (fil m L (st r p 0)).map (ev t) := by
      show (¬ _) ↔ _
      refine not_congr ⟨fun h x hx => ?_, fun h d hd => h _ (List.mem_map.mpr ⟨d, List.mem_range.mpr hd, rfl⟩)⟩
      obtain ⟨d, hd, rfl⟩ := List.mem_map.mp hx
      exact h d (List.mem_range.mp hd)
    have h0 : (tabOf (m p.2))[0]? = some ((fil m L (st r p 0)).map (ev t)) := by
      show ((List.range (m p.2)).map _)[0]? = _
      rw [List.getElem?_map, List.getElem?_range hpm]
      rfl
    generalize (fil m L (st r p 0)).map (ev t) = T0 at *
    generalize tabOf (m p.2) = TB at *
    obtain ⟨x0, hx0, hxt0⟩ := Paired.nth pt h0
    refine ⟨_, rfl, _, rfl, b, _, _, _, rfl, rfl, SqL.of eb, atI_nat (j := 0) hx0, (by show 1 ≤ sizeLine; decide), fun a6 h6 => ?_⟩
    generalize d6 : upd H3 a6 _ = H6 at *
    obtain ⟨s6, e6⟩ := Same.eqn h6 d6
    refine ⟨_, rfl, b, _, rfl, .inl (SqL.of (s6 _ _ eb)), a6, _, [x0], rfl, rfl, e6, by omega, by omega, le_line (by simp; omega), fun a7 h7 => ?_⟩
    rw [flat_rep]
    generalize d7 : upd H6 a7 _ = H7 at *
    obtain ⟨s7, e7⟩ := Same.eqn h7 d7
    have s37 := Same.trans s6 s7
    have eb7 := s37 _ _ eb
    have pt7 := Paired.imp pt fun _ _ h => VlB.same s37 h
    have hkn : ((zs.length : Nat) : Int).toNat = TB.length := by rw [hzl, htl]; rfl
    rw [hkn] at e7
    have hrep : Paired (VlB b H7) (List.replicate TB.length x0) (List.replicate TB.length T0) := paired_repl (VlB.same s37 hxt0) _
    refine ⟨.list (TB.map tabD), .list ((List.replicate TB.length T0).map tabD), .lst (SqL.of eb7) (dp_vlb pt7), .lst (SqL.of e7) (dp_vlb hrep), shaped_list (nice_tabs _) (depth_tabs _), shaped_list (nice_tabs _) (depth_tabs _), ?_⟩
    rw [eqv_list (nice_tabs _) (nice_tabs _)]
    have hiff : TB.map tabD = (List.replicate TB.length T0).map tabD ↔ ∀ x ∈ TB, x = T0 := by
      constructor
      · intro e x hx
        have h1 : tabD x ∈ (List.replicate TB.length T0).map tabD := by rw [← e]; exact List.mem_map_of_mem hx
        obtain ⟨y, hy, hyx⟩ := List.mem_map.mp h1
        rw [← tabD_inj hyx]
        exact List.eq_of_mem_replicate hy
      · intro e
        congr 1
        exact List.eq_replicate_iff.mpr ⟨rfl, e⟩
    have hfin := kq H7 (Same.trans s3 s37)
    have hval : (!decide (TB.map tabD = (List.replicate TB.length T0).map tabD)) = decide (Hangs m (p :: L) (ev t) r) := by
      by_cases h : ∀ x ∈ TB, x = T0
      · rw [decide_eq_true (hiff.mpr h), decide_eq_false (fun z => hhang.mp z h)]
        rfl
      · rw [decide_eq_false (fun z => h (hiff.mp z)), decide_eq_true (hhang.mpr h)]
        rfl
    rw [hval]
    exact hfin
end K16

set_option Elab.async false
set_option linter.all false
set_option maxRecDepth 100000
set_option maxHeartbeats 4000000
/-! tables_left. -/
namespace K16
open PySem PySem.Spec PyProof.Rows L2
open Classical
variable {P : Program} {w : World} {K : PySem.W.Frag} {mg : Str → Option Value} {base : Heap}
def mT (x : Mark) : V := .str (mD x).shown
def MkOk (x : Mark) : Prop := ∀ p, x.1 = some p → p ∈ allPl
theorem eqV_str (a b : Str) : eqV (.str a) (.str b) = decide (a = b) := by
  unfold L2.eqV
  rfl
theorem in_mT {x : Mark} {met : List Mark} (hx : MkOk x) (h : ∀ y ∈ met, MkOk y) : inV (mT x) (met.map mT) = decide (x ∈ met) := by
  induction met with
  | nil => rfl
  | cons y met ih =>
    have ih := ih fun z hz => h z (List.mem_cons_of_mem _ hz)
    unfold inV at ih ⊢
    rw [List.map_cons, List.any_cons, ih]
    have e1 : L2.eqV (mT y) (mT x) = decide ((mD y).shown = (mD x).shown) := eqV_str _ _
    rw [e1]
    by_cases e : y = x
    · subst e
      simp
    · have e2 : (mD y).shown ≠ (mD x).shown := fun z => e (mD_inj (h y (List.mem_cons_self ..)) hx z)
      rw [decide_eq_false e2, Bool.false_or]
      have : x ∈ y :: met ↔ x ∈ met := ⟨fun z => (List.mem_cons.mp z).resolve_left fun e' => e e'.symm, List.mem_cons_of_mem _⟩
      simp [this]
theorem flat_mT (met : List Mark) : (met.map mT).all flatV = true := List.all_eq_true.mpr fun x hx => by
  obtain ⟨y, _, rfl⟩ := List.mem_map.mp hx
  rfl
theorem nice_mD {x : Mark} (hx : MkOk x) : nice (mD x) = true := niceAll_mem.mpr fun y hy => by
  rcases List.mem_cons.mp hy with rfl | hy
  · cases h : x.1 with
    | none => decide +kernel
    | some p => exact nice_pd (allPl_ok p (hx p h))
  · rw [List.mem_singleton.mp hy]
    exact nice_tab x.2
theorem mD_repr {x : Mark} (hx : MkOk x) (hl : x.2.length ≤ 300) : (mD x).showable = true ∧ (mD x).hasDict = false ∧ (mD x).depth ≤ 60 ∧ (mD x).shown.length ≤ sizeLine := by
  refine nice_repr (nice_mD hx) ?_ ?_
  · rw [mD, depth_list]
    have : PyData.depthAll [kD x.1, .list (x.2.map vd)] ≤ 2 := depthAll_le fun y hy => by
      rcases List.mem_cons.mp hy with rfl | hy
      · cases h : x.1 with
        | none => exact Nat.zero_le _
        | some p => show (pd p).depth ≤ 2; rw [depth_pd]; omega
      · rw [List.mem_singleton.mp hy]
        exact depth_tab x.2
    omega
  · rw [mD, weight_list]
    have hw : ∀ y ∈ [kD x.1, PyData.list (x.2.map vd)], y.weight ≤ 3000 := fun y hy => by
      rcases List.mem_cons.mp hy with rfl | hy
      · cases h : x.1 with
        | none => show (PyData.str "end").weight ≤ 3000; decide +kernel
        | some p =>
          have := weight_pd (allPl_ok p (hx p h))
          show (pd p).weight ≤ 3000
          omega
      · rw [List.mem_singleton.mp hy, weight_list]
        have h1 := weightAll_le (c := 3) (xs := x.2.map vd) fun z hz => by
          obtain ⟨v, _, rfl⟩ := List.mem_map.mp hz
          exact weight_vd v
        rw [List.length_map] at h1
        omega
    have := weightAll_le hw
    simp at this
    omega
theorem foldl_put_ok : ∀ (xs met : List Mark), (∀ y ∈ met, MkOk y) → (∀ y ∈ xs, MkOk y) → ∀ y ∈ xs.foldl put1 met, MkOk y := fun xs met h1 h2 y hy => by
  rcases (foldl_put_mem xs met y).mp hy with h | h
  · exact h1 y h
  · exact h2 y h
theorem agr_nil (m : Nat → Nat) (f : Pl → Nat) : Agr m [] (fun _ => none) f := fun p hp => absurd hp (by simp)
theorem prd_drop {m : Nat → Nat} {L : List Pl} (hm : ∀ p ∈ L, 0 < m p.2) (i : Nat) : prd m (L.drop i) ≤ prd m L := by
  have h1 := prd_append m (L.take i) (L.drop i)
  rw [List.take_append_drop] at h1
  have h2 : 0 < prd m (L.take i) := prd_pos fun q hq => hm q (List.mem_of_mem_take hq)
  have h3 : 1 * prd m (L.drop i) ≤ prd m (L.take i) * prd m (L.drop i) := Nat.mul_le_mul_right _ h2
  omega
theorem Menu.drop {m : Nat → Nat} {L : List Pl} (M : Menu m L) (i : Nat) : Lok m (L.drop i) :=
  ⟨M.nodup.sublist (List.drop_sublist i L), fun p hp => M.two p (List.mem_of_mem_drop hp), fun p hp => M.ok p (List.mem_of_mem_drop hp), Nat.le_trans (prd_drop M.pos i) M.prd⟩
/-- the end of a turn: the mark is put in -/
theorem tail_tl {y0 y1 y2 y4 y5 y6 y9 y10 : Option V} {b vl : Addr} {kv : V} {D : Ends} {H : Hp} {met : List Mark} {x : Mark} {acc : List V} (eb : H b = some (.lst (met.map mT))) (hk : Ts H kv (kD x.1)) (ev1 : H vl = some (.lst acc)) (tv : TsA H acc (x.2.map vd)) (hok : MkOk x) (hmet : ∀ y ∈ met, MkOk y) (hl : x.2.length ≤ 300) (hml : met.length ≤ 10000)
    (next : ∀ H' x9, SameBut [b] H H' → H' b = some (.lst ((put1 met x).map mT)) → D.nx [y0, y1, y2, some (.ref b), y4, y5, y6, some (.ref vl), some kv, some x9, y10] H') :
    tSeq (tAsg (tCB (rRepr K) (tCons (tLst (tCons (tVar 8) (tCons (tVar 7) tNil))) tNil)) (gName 9)) (tIfS (tTest (tOp (rIn K true) (tVar 9) (tVar 3))) (tDrop (tBM K "list" rAppend (tVar 3) (tCons (tVar 9) tNil))) tNext) D [y0, y1, y2, some (.ref b), y4, y5, y6, some (.ref vl), some kv, y9, y10] H := by
  obtain ⟨r1, r2, r3, r4⟩ := mD_repr hok hl
  refine ⟨_, rfl, _, rfl, (by show 2 ≤ sizeLine; decide), fun p hp => ?_⟩
  generalize d1 : upd H p _ = H1 at *
  obtain ⟨s1, e1⟩ := Same.eqn hp d1
  have eb1 := s1 _ _ eb
  refine ⟨.ref p, mD x, rfl, .lst (SqL.of e1) (.cons (Ts.dp _ _ (Ts.keep (TK.of s1) _ _ hk)) (.cons (.lst (SqL.of (s1 _ _ ev1)) (TsA.dp _ _ (TsA.keep (TK.of s1) _ _ tv))) .nil)), rfl, r1, r2, r3, r4, ?_⟩
  refine ⟨_, rfl, _, rfl, b, _, rfl, .inl (SqL.of eb1), rfl, flat_mT met, _, rfl, ?_⟩
  have hin := in_mT hok hmet
  by_cases h : x ∈ met
  · refine itF ?_ ?_
    · show (!inV (mT x) (met.map mT)) = false
      rw [hin, decide_eq_true h]; rfl
    · refine next H1 _ (SameBut.of s1) ?_
      unfold put1
      rw [if_pos h]
      exact eb1
  · refine itT ?_ ?_
    · show (!inV (mT x) (met.map mT)) = true
      rw [hin, decide_eq_false h]; rfl
    · refine ⟨_, rfl, ty_l eb1, _, rfl, b, _, _, rfl, rfl, eb1, lt_line (by rw [List.length_map]; omega), ?_⟩
      refine next _ _ (SameBut.put (SameBut.of s1) (by simp)) ?_
      unfold put1
      rw [if_neg h, upd_same, List.map_append]
      rfl
abbrev sTl : Stmt := top 37
abbrev NTl : List Str := ["_law_sizes", "_law_places", "_law_tree_here", "_law_met", "_law_count_here", "_law_known", "_law_rest", "_law_values", "_law_kind", "_law_mark", "_law_filling"]
theorem scTl : FnScope NTl ["_law_sizes", "_law_places", "_law_tree_here"] (defScope sTl) := ⟨rfl, rfl, rfl, by decide +kernel, rfl, by decide +kernel, by decide +kernel⟩
def spTl : Sp := fun vs H Q _ => ∃ (s l : Addr) (v : V) (m : Nat → Nat) (L : List Pl) (t : Tr), vs = [.ref s, .ref l, v] ∧ SzAt H s m ∧ PlL H l L ∧ TrAt H v t ∧ Menu m L ∧ Wf m L t ∧ ∀ H', Same H H' → Q (.int ((puts (marks m L (ev t) (L.length + 1))).length : Nat)) H'
theorem ok_tl (D : Def K mg "_law_tables_left" sTl ["_law_sizes", "_law_places", "_law_tree_here"]) (Z : Bi mg) (C__law_value : Cal P w K mg base 1 "_law_value" spVa) (C__law_fillings : Cal P w K mg base 1 "_law_fillings" spFi) (C__law_hangs : Cal P w K mg base 2 "_law_hangs" spHa) : CalG P w K mg base 3 "_law_tables_left" spTl := by
  refine D.okG scTl (fun vs H Q E h => ?_) (fun f cdv A outer s H vs Q E hr hgu h => ?_)
  · obtain ⟨s, l, v, m, L, t, rfl, _⟩ := h
    rfl
  obtain ⟨sz, l, v, m, L, t, rfl, hsz, ⟨ys, el, ty⟩, ht, M, hw, kq⟩ := h
  have hu64 := hr.units
  refine ⟨_, (pss_cons (ps_set (i := 3) scTl.nd rfl (Or.inl rfl) (pe_lst pa_nil))
    (pss_cons (ps_for PassesOwn.never rfl (pi_range1 (by rfl) Z.range (pa_cons (pe_op op_add (pe_callB call_len_seq (by rfl) Z.len PySem.boot_len (pa_cons (pv 1) pa_nil)) pe_int) pa_nil)) (pg_name (i := 4) scTl.nd rfl (Or.inl rfl)) (pss_one (ps_for PassesOwn.never rfl (pi_list (pe_cal C__law_fillings (hr.mono (by omega)) (pa_cons (pv 0) (pa_cons (pe_slice sl_list (pv 1) po_none (po_some (pv 4))) (pa_cons pe_dnewT pa_nil))))) (pg_name (i := 5) scTl.nd rfl (Or.inl rfl)) (pss_cons (ps_set (i := 6) scTl.nd rfl (Or.inl rfl) (pe_cal C__law_fillings (hr.mono (by omega)) (pa_cons (pv 0) (pa_cons (pe_slice sl_list (pv 1) (po_some (pv 4)) po_none) (pa_cons (pv 5) pa_nil)))))
    (pss_cons (ps_setLc (i := 7) (own := [("_law_filling", 10)]) (g := gName 10) (tt := tYes) rfl scTl.nd rfl rfl (sw_true rfl rfl rfl (by decide +kernel)) (pi_list (pv 6)) (blkOk_by (own := [("_law_filling", 10)]) (N := NTl) (sc := defScope sTl) (by decide +kernel)) (fun _ _ _ _ _ => (pg_name (i := 10) scTl.nd rfl (Or.inl rfl))) (fun _ _ _ _ _ => by exact pts_nil) (fun _ _ _ _ _ => by exact (pe_cal C__law_value (hr.mono (by omega)) (pa_cons (pv 2) (pa_cons (pv 10) pa_nil)))))
    (pss_one (ps_if (PW.pt (pw_or (pt_cmpR op_eq (pv 4) (pe_callB call_len_seq (by rfl) Z.len PySem.boot_len (pa_cons (pv 1) pa_nil)) (nomark _)) (pw_or1 (pt_val (pe_cal C__law_hangs (hr.mono (by omega)) (pa_cons (pv 0) (pa_cons (pe_slice sl_list (pv 1) (po_some (pv 4)) po_none) (pa_cons (pv 2) (pa_cons (pv 5) pa_nil))))))))) (pss_cons (ps_set (i := 8) scTl.nd rfl (Or.inl rfl) (pe_ifExp (pt_cmpR op_eq (pv 4) (pe_callB call_len_seq (by rfl) Z.len PySem.boot_len (pa_cons (pv 1) pa_nil)) (nomark _)) pe_str (pe_il (pv 1) (pv 4))))
    (pss_cons (ps_set (i := 9) scTl.nd rfl (Or.inl rfl) (pe_callB (cr_repr hgu hu64) (by rfl) Z.repr (by decide +kernel) (pa_cons (pe_lst (pa_cons (pv 8) (pa_cons (pv 7) pa_nil))) pa_nil)))
    (pss_one (ps_if (pt_cmpR op_notIn_seq (pv 9) (pv 3) (by rfl)) (pss_one (ps_expr (pe_bm PySem.F.plainAttrs_list PySem.F.slot_list_append PySem.F.type_list_append mt_append (pv 3) (pa_cons (pv 9) pa_nil)))) pss_nil)))) pss_nil)))))))
    (pss_one (ps_ret (pe_callB call_len_seq (by rfl) Z.len PySem.boot_len (pa_cons (pv 3) pa_nil)))))), ?_⟩
  have hyl : ys.length = L.length := by rw [ty.length, List.length_map]
  have hL5 := M.len
  refine ⟨Nat.zero_le _, fun b hb => ?_⟩
  generalize d1 : upd H b _ = H1 at *
  obtain ⟨s1, e1⟩ := Same.eqn hb d1
  refine ⟨_, rfl, l, ys, rfl, .inl (SqL.of (s1 _ _ el)), _, 1, rfl, rfl, _, rfl, by omega, by omega, ?_⟩
  have hn : ((ys.length : Int) + 1).toNat = L.length + 1 := by omega
  rw [hn]
  refine for_range (n := L.length + 1) (fun c σ H2 => ∃ x4 x5 x6 x7 x8 x9, σ = [some (.ref sz), some (.ref l), some v, some (.ref b), x4, x5, x6, x7, x8, x9, none] ∧ Same H H2 ∧ H2 b = some (.lst ((puts (marks m L (ev t) c)).map mT)) ∧ (puts (marks m L (ev t) c)).length ≤ 300 * c ∧ ∀ y ∈ puts (marks m L (ev t) c), MkOk y)
    ⟨_, _, _, _, _, _, rfl, s1, e1, Nat.le_refl _, fun y hy => absurd hy (by simp [puts, marks])⟩ (fun c σ H2 hc ⟨x4, x5, x6, x7, x8, x9, hσ, s2, eb, hml, hmo⟩ => ?_) (fun σ H2 ⟨x4, x5, x6, x7, x8, x9, hσ, s2, eb, hml, hmo⟩ => ?_)
  · subst hσ
    rw [Int.zero_add]
    have hcl : c ≤ L.length := by omega
    refine ⟨_, rfl, _, rfl, _, rfl, (c : Int), rfl, l, ys, rfl, SqL.of (s2 _ _ el), fun p3 h3 => ?_⟩
    rw [cut_to (k := c) (by omega)]
    generalize d3 : upd H2 p3 _ = H3 at *
    obtain ⟨s3, e3⟩ := Same.eqn h3 d3
    refine fun a4 h4 => ?_
    generalize d4 : upd H3 a4 _ = H4 at *
    obtain ⟨s4, e4⟩ := Same.eqn h4 d4
    have s04 := Same.trans s2 (Same.trans s3 s4)
    have ht4 : TsA H4 (ys.take c) ((L.take c).map pd) := by
      rw [List.map_take]
      exact Paired.tsA (Paired.takeN c (TsA.keep (TK.of s04) _ _ ty).paired)
    refine ⟨sz, p3, a4, m, L.take c, _, rfl, hsz.tk (TK.of s04), ⟨_, s4 _ _ e3, ht4⟩, KnAt.nil e4, fun p hp => ⟨M.ok p (List.mem_of_mem_take hp), M.pos p (List.mem_of_mem_take hp)⟩, Nat.le_trans (prd_take M.pos c) M.prd, fun r5 xs5 H5 s5 er5 px5 => ⟨r5, rfl, ⟨_, SqL.of er5⟩, ?_⟩⟩
    have s25 := Same.trans s3 (Same.trans s4 s5)
    have s05 := Same.trans s2 s25
    have eb5 := s25 _ _ eb
    have pf : Paired (fun k f => ∀ q, q ∈ ([] : List Pl) ∨ q ∈ L.take c → k q = some (f q) ∧ f q < m q.2) (filK m (L.take c) fun _ => none) (fil m (L.take c) zero) := filK_agr (L.take c) (agr_nil m zero)
    have hfl : (fil m (L.take c) zero).length ≤ 300 := by
      rw [fil_length]
      exact Nat.le_trans (prd_take M.pos c) M.prd
    have hfs0 : 0 < (fil m (L.take c) zero).length := by
      rw [fil_length]
      exact prd_pos fun q hq => M.pos q (List.mem_of_mem_take hq)
    let cond : (Pl → Nat) → Bool := fun k => decide (c = L.length ∨ Hangs m (L.drop c) (ev t) k)
    have hmarks : marks m L (ev t) (c + 1) = marks m L (ev t) c ++ marksAt m L (ev t) c := by
      rw [marks, marks, List.range_succ, List.flatMap_append, List.flatMap_cons, List.flatMap_nil, List.append_nil]
    have hMA : marksAt m L (ev t) c = ((fil m (L.take c) zero).filter cond).map (markOf m L (ev t) c) := rfl
    generalize filK m (L.take c) (fun _ => none) = ks at *
    generalize fil m (L.take c) zero = fs at *
    have hxl : xs5.length = fs.length := by rw [Paired.len px5, Paired.len pf]
    have hok : ∀ k, MkOk (markOf m L (ev t) c k) := fun k p hp => M.ok p (List.mem_of_getElem? hp)
    have hnext : ∀ met0 : List Mark, (met0 = puts (marks m L (ev t) c)) → (((fs.take fs.length).filter cond).map (markOf m L (ev t) c)).foldl put1 met0 = puts (marks m L (ev t) (c + 1)) := fun met0 h0 => by
      rw [h0, List.take_length, ← hMA, hmarks, puts, puts, List.foldl_append]
    have hrb : r5 ≠ b := fun z => by
      rw [z, eb5] at er5
      have h1 : (puts (marks m L (ev t) c)).map mT = xs5 := HO.lst.inj (Option.some.inj er5)
      obtain ⟨x0, hx0⟩ : ∃ x0, xs5[0]? = some x0 := ⟨_, List.getElem?_eq_getElem (by omega)⟩
      obtain ⟨k0, _, a0, h3, _⟩ := Paired.nth' px5 hx0
      rw [← h1, List.getElem?_map] at hx0
      cases h4 : (puts (marks m L (ev t) c))[0]? with
      | none => rw [h4] at hx0; cases hx0
      | some y =>
        rw [h4] at hx0
        have h5 : mT y = x0 := Option.some.inj hx0
        rw [h3] at h5
        cases h5
    refine for_list (xs := xs5) (fun j σ H6 => ∃ x5 x6 x7 x8 x9, σ = [some (.ref sz), some (.ref l), some v, some (.ref b), some (.int (c : Int)), x5, x6, x7, x8, x9, none] ∧ ∃ met, met = (((fs.take j).filter cond).map (markOf m L (ev t) c)).foldl put1 (puts (marks m L (ev t) c)) ∧ SameBut [b] H5 H6 ∧ Same H H6 ∧ H6 b = some (.lst (met.map mT)) ∧ met.length ≤ 300 * c + j ∧ ∀ y ∈ met, MkOk y)
      ⟨_, _, _, _, _, rfl, _, rfl, SameBut.refl _ _, s05, eb5, hml, hmo⟩ (fun j σ H6 hj w => ?_) (fun j x σ H6 hx w => ?_) (fun σ H6 w => ?_)
    · obtain ⟨x5, x6, x7, x8, x9, _, met, _, sb6, _⟩ := w
      exact SqL.of (sb6 _ _ (fun z => hrb (List.mem_singleton.mp z)) er5)
    · obtain ⟨x5, x6, x7, x8, x9, hσ, met, hmet, sb6, s06, eb6, hml6, hmo6⟩ := w
      subst hσ
      obtain ⟨k', hk', aj, rfl, hkj⟩ := Paired.nth' px5 hx
      obtain ⟨f', hf', hkf⟩ := Paired.nth' pf hk'
      have hjl := (List.getElem?_eq_some_iff.mp hf').1
      have hkj6 : KnAt H6 aj k' := by
        obtain ⟨ps, h1, h2⟩ := hkj
        exact ⟨ps, sb6 _ _ (fun z => ne_of h1 eb5 (fun z => nomatch z) (List.mem_singleton.mp z)) h1, h2⟩
      have hag : Agr m (L.take c) k' f' := fun q hq => hkf q (.inr hq)
      refine ⟨_, rfl, _, rfl, _, rfl, (c : Int), rfl, l, ys, rfl, SqL.of (s06 _ _ el), fun p7 h7 => ?_⟩
      rw [cut_from (k := c) (by omega)]
      generalize d7 : upd H6 p7 _ = H7 at *
      obtain ⟨s7, e7⟩ := Same.eqn h7 d7
      have s07 := Same.trans s06 s7
      have hplD : ∀ {H9 : Hp}, Same H H9 → TsA H9 (ys.drop c) ((L.drop c).map pd) := fun s9 => by
        rw [List.map_drop]
        exact Paired.tsA (Paired.dropN c (TsA.keep (TK.of s9) _ _ ty).paired)
      refine ⟨_, rfl, sz, p7, aj, m, L.drop c, k', rfl, hsz.tk (TK.of s07), ⟨_, e7, hplD s07⟩, hkj6.same s7, fun p hp => ⟨M.ok p (List.mem_of_mem_drop hp), M.pos p (List.mem_of_mem_drop hp)⟩, (M.drop c).prd, fun r8 xs8 H8 s8 er8 px8 => ?_⟩
      have s08 := Same.trans s07 s8
      have hcov : ∀ p ∈ L, p ∈ L.take c ∨ p ∈ L.drop c := fun p hp => by
        rw [← List.take_append_drop c L] at hp
        exact List.mem_append.mp hp
      refine ⟨_, rfl, r8, rfl, ⟨_, SqL.of er8⟩, fun D1 hD1 => ?_⟩
      refine lc_vals (fs := fil m (L.drop c) f') hD1 er8 px8 (filK_cov hag hcov) (Ts.keep (TK.of s08) _ _ ht) hw (by rw [fil_length]; exact (M.drop c).prd) (fun _ => rfl) (fun _ => rfl) (fun _ => rfl) fun H9 acc s9 eD ta => ?_
      have s09 := Same.trans s08 s9
      have s69 := Same.trans s7 (Same.trans s8 s9)
      have eb9 := s69 _ _ eb6
      have htk : (fs.take (j + 1)).filter cond = (fs.take j).filter cond ++ (if cond f' = true then [f'] else []) := by
        rw [take_one hf', List.filter_append, List.filter_cons, List.filter_nil]
      have hkeep : ∀ {H' : Hp}, SameBut [b] H6 H' → Same H H' := fun sb => SameBut.same sb s06 (fun a ha => by rw [List.mem_singleton.mp ha]; exact hb)
      have hyes : cond f' = true → (((fs.take (j + 1)).filter cond).map (markOf m L (ev t) c)).foldl put1 (puts (marks m L (ev t) c)) = put1 met (markOf m L (ev t) c f') := fun h => by
        rw [htk, if_pos h, List.map_append, List.foldl_append, ← hmet]
        rfl
      have hput : (put1 met (markOf m L (ev t) c f')).length ≤ met.length + 1 ∧ ∀ y ∈ put1 met (markOf m L (ev t) c f'), MkOk y := by
        refine ⟨?_, fun y hy => ?_⟩
        · unfold put1
          split
          · omega
          · rw [List.length_append, List.length_singleton]; omega
        · rcases (put_mem _ _ _).mp hy with h | h
          · exact hmo6 y h
          · rw [h]; exact hok f'
      have hvl : (markOf m L (ev t) c f').2.length ≤ 300 := by
        show ((fil m (L.drop c) f').map (ev t)).length ≤ 300
        rw [List.length_map, fil_length]
        exact (M.drop c).prd
      have hdec : ∀ {A : Addr}, V.int (c : Int) = V.int (ys.length : Int) ↔ c = L.length := fun {_} => by
        rw [hyl]
        exact ⟨fun h => Int.ofNat_inj.mp (V.int.inj h), fun h => by rw [h]⟩
      refine ⟨_, rfl, _, rfl, l, ys, rfl, .inl (SqL.of (s09 _ _ el)), rfl, _, rfl, ?_⟩
      by_cases hcL : c = L.length
      · have hdt : decide (V.int (c : Int) = V.int (ys.length : Int)) = true := decide_eq_true ((hdec (A := b)).mpr hcL)
        have hcond : cond f' = true := decide_eq_true (.inl hcL)
        refine itT hdt (itT rfl ?_)
        refine ⟨_, rfl, _, rfl, l, ys, rfl, .inl (SqL.of (s09 _ _ el)), rfl, _, rfl, itT hdt ?_⟩
        have hk1 : (markOf m L (ev t) c f').1 = none := by
          show L[c]? = none
          rw [List.getElem?_eq_none_iff]; omega
        refine tail_tl (K := K) (x := markOf m L (ev t) c f') eb9 (by rw [hk1]; exact .str _) eD ta (hok f') hmo6 hvl (by omega) fun H' x9 sb' eb' => ?_
        exact ⟨_, _, _, _, _, rfl, _, (hyes hcond).symm, SameBut.trans sb6 (SameBut.trans (SameBut.of s69) sb'), hkeep (SameBut.trans (SameBut.of s69) sb'), eb', by omega, hput.2⟩
      · have hdf : decide (V.int (c : Int) = V.int (ys.length : Int)) = false := decide_eq_false (fun z => hcL ((hdec (A := b)).mp z))
        have hc1 : c < L.length := by omega
        have hdrop : L.drop c = L[c] :: L.drop (c + 1) := List.drop_eq_getElem_cons hc1
        have hget : L[c]? = some L[c] := List.getElem?_eq_getElem hc1
        refine itF hdf ?_
        refine ⟨_, rfl, _, rfl, _, rfl, (c : Int), rfl, l, ys, rfl, SqL.of (s09 _ _ el), fun p10 h10 => ?_⟩
        rw [cut_from (k := c) (by omega)]
        generalize d10 : upd H9 p10 _ = H10 at *
        obtain ⟨s10, e10⟩ := Same.eqn h10 d10
        have s010 := Same.trans s09 s10
        have hpl10 : PlL H10 p10 (L[c] :: L.drop (c + 1)) := ⟨_, e10, by rw [← hdrop]; exact hplD s010⟩
        have hlok := M.drop c
        rw [hdrop] at hlok
        refine ⟨_, rfl, _, rfl, sz, p10, aj, v, m, L[c], L.drop (c + 1), L.take c, L, t, k', f', rfl, hsz.tk (TK.of s010), hpl10, Ts.keep (TK.of s010) _ _ ht, hkj6.same (Same.trans s69 s10), hlok, hw, hag, (by rw [← hdrop]; exact hcov), fun H11 s11 => ⟨_, rfl, ?_⟩⟩
        rw [← hdrop]
        have s011 := Same.trans s010 s11
        have s911 := Same.trans s10 s11
        have s611 := Same.trans s69 s911
        have eb11 := s611 _ _ eb6
        by_cases hh : Hangs m (L.drop c) (ev t) f'
        · have hcond : cond f' = true := decide_eq_true (.inr hh)
          refine itT (decide_eq_true hh) ?_
          obtain ⟨q, hq0, hq⟩ := pl_of (i := c) (p := L[c]) (TsA.keep (TK.of s011) _ _ ty) hget
          refine ⟨_, rfl, _, rfl, l, ys, rfl, .inl (SqL.of (s011 _ _ el)), rfl, _, rfl, itF hdf ⟨_, rfl, _, rfl, l, _, _, _, rfl, rfl, SqL.of (s011 _ _ el), atI_nat hq0, ?_⟩⟩
          have hk1 : (markOf m L (ev t) c f').1 = some L[c] := hget
          refine tail_tl (K := K) (x := markOf m L (ev t) c f') eb11 (by rw [hk1]; exact PlAt_mk hq) (s911 _ _ eD) (TsA.keep (TK.of s911) _ _ ta) (hok f') hmo6 hvl (by omega) fun H' x9 sb' eb' => ?_
          exact ⟨_, _, _, _, _, rfl, _, (hyes hcond).symm, SameBut.trans sb6 (SameBut.trans (SameBut.of s611) sb'), hkeep (SameBut.trans (SameBut.of s611) sb'), eb', by omega, hput.2⟩
        · have hcond : ¬ cond f' = true := fun z => by
            rcases of_decide_eq_true z with h | h
            · exact hcL h
            · exact hh h
          refine itF (decide_eq_false hh) ?_
          refine ⟨_, _, _, _, _, rfl, met, ?_, SameBut.trans sb6 (SameBut.of s611), s011, eb11, by omega, hmo6⟩
          rw [htk, if_neg hcond, List.append_nil]
          exact hmet
    · obtain ⟨x5, x6, x7, x8, x9, hσ, met, hmet, sb6, s06, eb6, hml6, hmo6⟩ := w
      subst hσ
      rw [hxl, hnext _ rfl] at hmet
      subst hmet
      exact ⟨_, _, _, _, _, _, rfl, s06, eb6, by omega, hmo6⟩
  · subst hσ
    refine ⟨_, rfl, b, _, rfl, .inl (SqL.of eb), ?_⟩
    rw [List.length_map]
    exact kq H2 s2
end K16

set_option Elab.async false
set_option linter.all false
set_option maxRecDepth 100000
set_option maxHeartbeats 4000000
/-! parts_right. -/
namespace K16
open PySem PySem.Spec PyProof.Rows L2
open Classical
variable {P : Program} {w : World} {K : PySem.W.Frag} {mg : Str → Option Value} {base : Heap}
theorem pg_tupk {X : Cx} {pos : Pos} (K : PySem.W.Frag) (n : Nat) (hK : X.K = K) {es : List Expr} {k : Nat} {t : TGs} (hc : X.calm = true) (h : PGs X es t)
    (hn : (assignEach es X.env).length = n := by rfl) (hst : (assignEach es X.env).findIdx? (·.1) = none := by rfl) : PG X (.Tuple es k pos) (gTup K n t) := by
  subst hK
  exact pg_tup hc h hn hst
theorem filt_t {α : Type} (f : α → Bool) {a : α} (h : f a = true) : [a].filter f = [a] := by rw [List.filter_cons, if_pos h, List.filter_nil]
theorem filt_f {α : Type} (f : α → Bool) {a : α} (h : ¬ f a = true) : [a].filter f = [] := by rw [List.filter_cons, if_neg h, List.filter_nil]
/-! ### the ends as data -/
theorem nice_kd {x : Pl × Nat} (hp : PlOk x.1) (hd : x.2 < 1000) : nice (kd x) = true := niceAll_mem.mpr fun y hy => by
  rcases List.mem_cons.mp hy with rfl | hy
  · exact nice_pd hp
  · rw [List.mem_singleton.mp hy]
    exact nice_int (by omega)
theorem weight_kd {x : Pl × Nat} (hp : PlOk x.1) (hd : x.2 < 1000) : (kd x).weight ≤ 196 := by
  have h1 := weight_pd hp
  have h2 := weight_int (n := x.2) (by omega)
  have h3 : (kd x).weight = (pd x.1).weight + 1 + ((PyData.int (x.2 : Int)).weight + 1 + 0) := rfl
  omega
/-- an end whose data are small -/
def EnOk (e : Kn × Va) : Prop := e.1.length ≤ 5 ∧ ∀ x ∈ e.1, PlOk x.1 ∧ x.2 < 1000
theorem srt_mem {k : Kn} {x : Pl × Nat} : x ∈ srt k ↔ x ∈ k := sort_mem
theorem srt_len (k : Kn) : (srt k).length = k.length := (List.mergeSort_perm k _).length_eq
theorem nice_eD {e : Kn × Va} (h : EnOk e) : nice (eD e) = true := niceAll_mem.mpr fun y hy => by
  rcases List.mem_cons.mp hy with rfl | hy
  · refine niceAll_mem.mpr fun z hz => ?_
    obtain ⟨x, hx, rfl⟩ := List.mem_map.mp hz
    obtain ⟨h1, h2⟩ := h.2 x (srt_mem.mp hx)
    exact nice_kd h1 h2
  · rw [List.mem_singleton.mp hy]
    exact nice_vd _
theorem weight_eD {e : Kn × Va} (h : EnOk e) : (eD e).weight ≤ 990 := by
  have h1 := weightAll_le (c := 196) (xs := (srt e.1).map kd) fun z hz => by
    obtain ⟨x, hx, rfl⟩ := List.mem_map.mp hz
    obtain ⟨h1, h2⟩ := h.2 x (srt_mem.mp hx)
    exact weight_kd h1 h2
  rw [List.length_map, srt_len] at h1
  have h2 := weight_vd e.2
  have h3 : (eD e).weight = (PyData.weightAll ((srt e.1).map kd) + 1) + ((vd e.2).weight + 1 + 0) := rfl
  have h4 := h.1
  have h5 : e.1.length * (196 + 1) ≤ 5 * 197 := Nat.mul_le_mul_right _ h4
  omega
theorem depth_eD (e : Kn × Va) : (eD e).depth ≤ 5 := by
  rw [eD, depth_tuple]
  have h : PyData.depthAll [.tuple ((srt e.1).map kd), vd e.2] ≤ 4 := depthAll_le fun y hy => by
    rcases List.mem_cons.mp hy with rfl | hy
    · rw [depth_tuple]
      have : PyData.depthAll ((srt e.1).map kd) ≤ 2 := depthAll_le fun z hz => by
        obtain ⟨x, _, rfl⟩ := List.mem_map.mp hz
        exact Nat.le_refl _
      omega
    · rw [List.mem_singleton.mp hy]
      have := depth_vd e.2
      omega
  omega
theorem ends_repr {es : List (Kn × Va)} (h : ∀ e ∈ es, EnOk e) (hl : es.length ≤ 300) : (PyData.tuple (es.map eD)).showable = true ∧ (PyData.tuple (es.map eD)).hasDict = false ∧ (PyData.tuple (es.map eD)).depth ≤ 60 ∧ (PyData.tuple (es.map eD)).shown.length ≤ sizeLine := by
  refine nice_repr (niceAll_mem.mpr fun y hy => ?_) ?_ ?_
  · obtain ⟨e, he, rfl⟩ := List.mem_map.mp hy
    exact nice_eD (h e he)
  · rw [depth_tuple]
    have : PyData.depthAll (es.map eD) ≤ 5 := depthAll_le fun y hy => by
      obtain ⟨e, _, rfl⟩ := List.mem_map.mp hy
      exact depth_eD e
    omega
  · rw [weight_tuple]
    have h1 := weightAll_le (c := 990) (xs := es.map eD) fun y hy => by
      obtain ⟨e, he, rfl⟩ := List.mem_map.mp hy
      exact weight_eD (h e he)
    rw [List.length_map] at h1
    have h5 : es.length * (990 + 1) ≤ 300 * 991 := Nat.mul_le_mul_right _ hl
    omega
theorem en_ok {m : Nat → Nat} {L : List Pl} {t : Tr} (M : Menu m L) (hw : Wf m L t) : ∀ e ∈ en t [], EnOk e := fun e he => by
  obtain ⟨x, h1, h2, h3⟩ := en_mem hw he
  rw [List.nil_append] at h1
  have := M.len
  refine ⟨by rw [h1]; omega, fun y hy => ?_⟩
  rw [h1] at hy
  obtain ⟨h4, h5⟩ := h3 y hy
  have := M.size y.1 h4
  exact ⟨M.plOk y.1 h4, by omega⟩
theorem vals_repr {vs : List Va} (hl : vs.length ≤ 300) : (tabD vs).showable = true ∧ (tabD vs).hasDict = false ∧ (tabD vs).depth ≤ 60 ∧ (tabD vs).shown.length ≤ sizeLine := by
  refine nice_repr (nice_tab vs) (by have := depth_tab vs; omega) ?_
  rw [tabD, weight_list]
  have h1 := weightAll_le (c := 3) (xs := vs.map vd) fun z hz => by
    obtain ⟨v, _, rfl⟩ := List.mem_map.mp hz
    exact weight_vd v
  rw [List.length_map] at h1
  omega
abbrev sPr : Stmt := top 40
abbrev NPr : List Str := ["_law_sizes", "_law_tree_here", "_law_places", "_law_ends_here", "_law_filling", "_law_along", "_law_known", "_law_value_here", "_law_place", "_law_d"]
theorem scPr : FnScope NPr ["_law_sizes", "_law_tree_here", "_law_places"] (defScope sPr) := ⟨rfl, rfl, rfl, by decide +kernel, rfl, by decide +kernel, by decide +kernel⟩
def spPr : Sp := fun vs H Q _ => ∃ (s l : Addr) (v : V) (m : Nat → Nat) (L : List Pl) (t : Tr), vs = [.ref s, v, .ref l] ∧ SzAt H s m ∧ PlL H l L ∧ TrAt H v t ∧ Menu m L ∧ Wf m L t ∧ ∀ H', Same H H' → Q (.bl true) H'
theorem ok_pr (D : Def K mg "_law_parts_right" sPr ["_law_sizes", "_law_tree_here", "_law_places"]) (Z : Bi mg) (C_ends_of : Cal P w K mg base 1 "ends_of" spEn) (C__law_ends : Cal P w K mg base (0 + 6) "_law_ends" (spEd 6)) (C__law_value : Cal P w K mg base 1 "_law_value" spVa) (C__law_fillings : Cal P w K mg base 1 "_law_fillings" spFi) : CalG P w K mg base 7 "_law_parts_right" spPr := by
  refine D.okG scPr (fun vs H Q E h => ?_) (fun f cdv A outer s H vs Q E hr hgu h => ?_)
  · obtain ⟨s, l, v, m, L, t, rfl, _⟩ := h
    rfl
  obtain ⟨sz, l, v, m, L, t, rfl, hsz, hl, ht, M, hw, kq⟩ := h
  have hu := hu_of hr
  have hu64 := hr.units
  refine ⟨_, (pss_cons (ps_set (i := 3) scPr.nd rfl (Or.inl rfl) (pe_cal C_ends_of (hr.mono (by omega)) (pa_cons (pv 1) pa_nil)))
    (pss_cons (ps_if (pt_cmpR op_ne (pe_callB (cr_repr hgu hu64) (by rfl) Z.repr (by decide +kernel) (pa_cons (pv 3) pa_nil)) (pe_callB (cr_repr hgu hu64) (by rfl) Z.repr (by decide +kernel) (pa_cons (pe_callTy call_tuple_of (by rfl) Z.tuple (by decide +kernel) (pa_cons (pe_cal C__law_ends (hr.mono (by omega)) (pa_cons (pv 1) (pa_cons (pe_lst pa_nil) pa_nil))) pa_nil)) pa_nil)) (nomark _)) (pss_one (ps_ret pe_bl)) pss_nil)
    (pss_cons (ps_for PassesOwn.never rfl (pi_list (pe_cal C__law_fillings (hr.mono (by omega)) (pa_cons (pv 0) (pa_cons (pv 2) (pa_cons pe_dnewT pa_nil))))) (pg_name (i := 4) scPr.nd rfl (Or.inr rfl)) (pss_cons (ps_set (i := 5) scPr.nd rfl (Or.inl rfl) (pe_lst pa_nil))
    (pss_cons (ps_for PassesOwn.never rfl (pi_tup (pv 3)) (pg_tup rfl (pgs_cons (pg_name (i := 6) scPr.nd rfl (Or.inl rfl)) (pgs_cons (pg_name (i := 7) scPr.nd rfl (Or.inl rfl)) pgs_nil))) (pss_one (ps_if (pt_cmpR (op_eqD hu64) (pe_lc (own := [("_law_place", 8), ("_law_d", 9)]) rfl scPr.nd (pi_tup (pv 6)) (blkOk_by (own := [("_law_place", 8), ("_law_d", 9)]) (N := NPr) (sc := defScope sPr) (by decide +kernel)) (fun _ _ _ _ _ => (pg_tupk K 2 rfl rfl (pgs_cons (pg_name (i := 8) scPr.nd rfl (Or.inl rfl)) (pgs_cons (pg_name (i := 9) scPr.nd rfl (Or.inl rfl)) pgs_nil)))) (fun _ _ _ _ _ => by exact (pts_one (pt_cmpR op_ne (pe_dget hu (pv 4) (pv 8) (fun _ _ => rfl)) (pv 9) (nomark _)))) (fun _ _ _ _ _ => by exact (pv 8))) (pe_lst pa_nil) (nomark _)) (pss_one (ps_expr (pe_bm PySem.F.plainAttrs_list PySem.F.slot_list_append PySem.F.type_list_append mt_append (pv 5) (pa_cons (pv 7) pa_nil)))) pss_nil)))
    (pss_one (ps_if (pt_cmpR op_ne (pe_callB (cr_repr hgu hu64) (by rfl) Z.repr (by decide +kernel) (pa_cons (pv 5) pa_nil)) (pe_callB (cr_repr hgu hu64) (by rfl) Z.repr (by decide +kernel) (pa_cons (pe_lst (pa_cons (pe_cal C__law_value (hr.mono (by omega)) (pa_cons (pv 1) (pa_cons (pv 4) pa_nil))) pa_nil)) pa_nil)) (nomark _)) (pss_one (ps_ret pe_bl)) pss_nil)))))
    (pss_one (ps_ret pe_bl))))), ?_⟩
  have hdp := hw.dep
  have hL5 := M.len
  have hE := en_ok M hw
  have hEl : (en t []).length ≤ 300 := Nat.le_trans (en_len hw M.nodup M.pos []) M.prd
  have hEp : ∀ e ∈ en t [], ∀ y ∈ e.1, y.1 ∈ L ∧ y.2 < m y.1.2 := fun e he y hy => by
    obtain ⟨x, h1, _, h3⟩ := en_mem hw he
    rw [List.nil_append] at h1
    rw [h1] at hy
    exact h3 y hy
  refine ⟨_, rfl, v, t, m, L, rfl, ht, M, hw, fun r1 ys1 H1 s1 er1 ty1 => ?_⟩
  obtain ⟨q1, q2, q3, q4⟩ := ends_repr hE hEl
  have hall : ∀ f, Vd m L f → along f (en t []) = [ev t f] := fun f hf => by
    rw [en_along hw hf []]
    exact if_pos rfl
  refine ⟨_, rfl, .ref r1, .tuple ((en t []).map eD), rfl, .tup (SqT.of er1) (TsA.dp _ _ ty1), rfl, q1, q2, q3, q4, ?_⟩
  refine ⟨_, rfl, Nat.zero_le _, fun a2 h2 => ?_⟩
  generalize d2 : upd H1 a2 _ = H2 at *
  obtain ⟨s2, e2⟩ := Same.eqn h2 d2
  refine ⟨v, a2, [], t, [], m, L, rfl, Ts.keep (TK.of (Same.trans s1 s2)) _ _ ht, e2, .nil, hw, M.nodup, M.pos, M.prd, by simp, by omega, fun r3 zs3 H3 s3 er3 tz3 => ?_⟩
  refine ⟨r3, zs3, rfl, .inl ⟨SqL.of er3, fun a4 h4 => ?_⟩⟩
  generalize d4 : upd H3 a4 _ = H4 at *
  obtain ⟨s4, e4⟩ := Same.eqn h4 d4
  refine ⟨.ref a4, .tuple ((en t []).map eD), rfl, .tup (SqT.of e4) (TsA.dp _ _ (TsA.keep (TK.of s4) _ _ tz3)), rfl, q1, q2, q3, q4, rfl, _, rfl, itF (by rw [decide_eq_true rfl]; rfl) ?_⟩
  have s14 := Same.trans s2 (Same.trans s3 s4)
  have s04 := Same.trans s1 s14
  refine ⟨_, rfl, _, rfl, fun a5 h5 => ?_⟩
  generalize d5 : upd H4 a5 _ = H5 at *
  obtain ⟨s5, e5⟩ := Same.eqn h5 d5
  have s05 := Same.trans s04 s5
  refine ⟨sz, l, a5, m, L, _, rfl, hsz.tk (TK.of s05), hl.same s05, KnAt.nil e5, fun p hp => ⟨M.ok p hp, M.pos p hp⟩, M.prd, fun r6 xs6 H6 s6 er6 px6 => ⟨r6, rfl, ⟨_, SqL.of er6⟩, ?_⟩⟩
  have s06 := Same.trans s05 s6
  have s16 := Same.trans s14 (Same.trans s5 s6)
  have pf : Paired (fun k f => ∀ q ∈ L, k q = some (f q) ∧ f q < m q.2) (filK m L fun _ => none) (fil m L zero) := filK_cov (agr_nil m zero) (fun p hp => .inr hp)
  have er16 := s16 _ _ er1
  have ty16 := TsA.keep (TK.of s16) _ _ ty1
  have hy1l : ys1.length = (en t []).length := by rw [ty1.length, List.length_map]
  generalize en t [] = E at *
  refine for_list (xs := xs6) (fun i σ H7 => ∃ x4 x5 x6 x7, σ = [some (.ref sz), some v, some (.ref l), some (.ref r1), x4, x5, x6, x7, none, none] ∧ Same H6 H7) ⟨_, _, _, _, rfl, Same.refl _⟩ (fun i σ H7 hi ⟨x4, x5, x6, x7, hσ, s7⟩ => SqL.of (s7 _ _ er6)) (fun i x σ H7 hx ⟨x4, x5, x6, x7, hσ, s7⟩ => ?_) (fun σ H7 ⟨x4, x5, x6, x7, hσ, s7⟩ => ?_)
  · subst hσ
    obtain ⟨k, hk, a7, rfl, hka⟩ := Paired.nth' px6 hx
    obtain ⟨g, hg, hkg⟩ := Paired.nth' pf hk
    have hvd : Vd m L g := fun p hp => (hkg p hp).2
    have hka7 := hka.same s7
    refine ⟨Nat.zero_le _, fun b hb => ?_⟩
    generalize d8 : upd H7 b _ = H8 at *
    obtain ⟨s8, e8⟩ := Same.eqn hb d8
    have s68 := Same.trans s7 s8
    refine ⟨_, rfl, r1, rfl, ⟨_, SqT.of (s68 _ _ er16)⟩, ?_⟩
    refine for_tup (xs := ys1) (fun j σ H9 => ∃ x6 x7 acc, σ = [some (.ref sz), some v, some (.ref l), some (.ref r1), some (.ref a7), some (.ref b), x6, x7, none, none] ∧ Same H7 H9 ∧ H9 b = some (.lst acc) ∧ TsA H9 acc ((along g (E.take j)).map vd)) ⟨_, _, [], rfl, s8, e8, .nil⟩ (fun j σ H9 hj ⟨x6, x7, acc, hσ, s9, _⟩ => SqT.of (s9 _ _ (s7 _ _ er16))) (fun j x σ H9 hxj ⟨x6, x7, acc, hσ, s9, eb, ta⟩ => ?_) (fun σ H9 ⟨x6, x7, acc, hσ, s9, eb, ta⟩ => ?_)
    · subst hσ
      have s69 := Same.trans s7 s9
      obtain ⟨e, he, hxe⟩ := Paired.nth' (Paired.unmapR (f := eD) ty16.paired) hxj
      have hxe9 : Ts H9 x (eD e) := Ts.keep (TK.of s69) _ _ hxe
      have hem := List.mem_of_getElem? he
      obtain ⟨qx, xs0, rfl, ex, tx⟩ := hxe9.tupE
      obtain ⟨y1, y2, rfl, ht1, ht2⟩ := tx.two
      obtain ⟨kq1, zs, rfl, ez, tz⟩ := ht1.tupE
      have hzl : zs.length = e.1.length := by rw [tz.length, List.length_map, srt_len]
      have hz5 := (hE e hem).1
      refine ⟨qx, _, rfl, SqT.of ex, rfl, _, _, rfl, _, _, rfl, rfl, ?_⟩
      refine ⟨_, rfl, kq1, rfl, ⟨_, SqT.of ez⟩, fun D0 hD0 => ?_⟩
      have hka9 := (hka7.same s9)
      refine lc_tup (xs := zs) (fun c H10 => Same H9 H10 ∧ ∃ ps, H10 D0 = some (.lst ps) ∧ TsA H10 ps ((((srt e.1).take c).filter fun y => decide (g y.1 ≠ y.2)).map fun y => pd y.1)) ⟨Same.new hD0 _, [], upd_same, .nil⟩ (fun c H10 hc w => SqT.of (w.1 _ _ ez)) (fun c x H10 hxc w => ?_) (fun H10 w => ?_)
      · obtain ⟨s10, ps, eD0, tp⟩ := w
        obtain ⟨y, hy, hxy⟩ := Paired.nth' (Paired.unmapR (f := kd) tz.paired) hxc
        have hxy10 : Ts H10 x (kd y) := Ts.keep (TK.of s10) _ _ hxy
        obtain ⟨qy, xs1, rfl, ey, ty2⟩ := hxy10.tupE
        obtain ⟨w1, w2, rfl, hw1, hw2⟩ := ty2.two
        obtain ⟨qp, rfl, eqp⟩ := PlAt_tup hw1
        rw [hw2.intE] at ey
        have hym := srt_mem.mp (List.mem_of_getElem? hy)
        obtain ⟨hyL, hyd⟩ := hEp e hem y hym
        have hgt := (hka9.same s10).get (p := y.1) eqp
        rw [(hkg y.1 hyL).1] at hgt
        refine ⟨qy, _, rfl, SqT.of ey, rfl, _, _, rfl, _, _, rfl, rfl, ?_⟩
        refine ⟨rfl, _, rfl, _, rfl, a7, _, rfl, hgt, _, rfl, rfl, _, rfl, ?_⟩
        have htk := take_one hy
        by_cases hgy : g y.1 = y.2
        · refine itF ?_ ⟨s10, ps, eD0, ?_⟩
          · rw [hgy, decide_eq_true rfl]; rfl
          · have : ¬ (decide (g y.1 ≠ y.2) = true) := fun z => of_decide_eq_true z hgy
            rw [htk, List.filter_append, filt_f (fun y : Pl × Nat => decide (g y.1 ≠ y.2)) this, List.append_nil]
            exact tp
        · have hne : V.int ((g y.1 : Nat) : Int) ≠ V.int ((y.2 : Nat) : Int) := fun z => hgy (Int.ofNat_inj.mp (V.int.inj z))
          refine itT ?_ ⟨_, rfl, ps, eD0, ?_, ?_⟩
          · rw [decide_eq_false hne]; rfl
          · have h1 : ps.length ≤ zs.length := by
              rw [tp.length, List.length_map]
              refine Nat.le_trans (List.length_filter_le ..) ?_
              rw [List.length_take, srt_len]; omega
            exact lt_line (by omega)
          · have k11 : TK H10 (upd H10 D0 (.lst (ps ++ [.ref qp]))) := TK.lst eD0 _
            refine ⟨Same.lst s10 hD0, _, upd_same, ?_⟩
            have : decide (g y.1 ≠ y.2) = true := decide_eq_true hgy
            rw [htk, List.filter_append, filt_t (fun y : Pl × Nat => decide (g y.1 ≠ y.2)) this, List.map_append]
            exact TsA.append (TsA.keep k11 _ _ tp) (.cons (Ts.keep k11 _ _ (PlAt_mk eqp)) .nil)
      · obtain ⟨s10, ps, eD0, tp⟩ := w
        rw [hzl, ← srt_len, List.take_length] at tp
        have hpo : ∀ p ∈ ((srt e.1).filter fun y => decide (g y.1 ≠ y.2)).map (·.1), PlOk p := fun p hp => by
          obtain ⟨y, hy, rfl⟩ := List.mem_map.mp hp
          exact M.plOk _ (hEp e hem y (srt_mem.mp (List.mem_filter.mp hy).1)).1
        have hmm : (((srt e.1).filter fun y => decide (g y.1 ≠ y.2)).map fun y => pd y.1) = ((((srt e.1).filter fun y => decide (g y.1 ≠ y.2)).map (·.1)).map pd) := by rw [List.map_map]; rfl
        rw [hmm] at tp
        refine ⟨Nat.zero_le _, fun a11 h11 => ?_⟩
        have s11 := Same.new h11 (.lst [])
        refine ⟨.list _, .list [], .lst (SqL.of (s11 _ _ eD0)) (TsA.dp _ _ (TsA.keep (TK.of s11) _ _ tp)), .lst (SqL.of upd_same) .nil, shaped_pds hpo, shaped_nil, _, rfl, ?_⟩
        rw [eqv_pds_nil hpo]
        have s911 := Same.trans s10 s11
        have s711 := Same.trans s9 s911
        have hagr : ((((srt e.1).filter fun y => decide (g y.1 ≠ y.2)).map (·.1)) = []) ↔ agr g e.1 = true := by
          rw [List.map_eq_nil_iff, List.filter_eq_nil_iff, agr, List.all_eq_true]
          constructor
          · intro h y hy
            have := h y (srt_mem.mpr hy)
            exact beq_iff_eq.mpr (Decidable.byContradiction fun z => this (decide_eq_true z))
          · intro h y hy z
            exact of_decide_eq_true z (beq_iff_eq.mp (h y (srt_mem.mp hy)))
        have htk := take_one he
        generalize upd H10 a11 (.lst []) = H11 at *
        have eb11 := s911 _ _ eb
        have hal : acc.length ≤ 300 := by
          rw [ta.length, List.length_map, along, List.length_map]
          refine Nat.le_trans (List.length_filter_le ..) ?_
          rw [List.length_take]; omega
        by_cases hag : agr g e.1 = true
        · refine itT (decide_eq_true (hagr.mpr hag)) ?_
          refine ⟨_, rfl, ty_l eb11, _, rfl, b, _, _, rfl, rfl, eb11, lt_line (by omega), ?_⟩
          have k12 : TK H11 (upd H11 b (.lst (acc ++ [y2]))) := TK.lst eb11 _
          have k912 := TK.trans (TK.of s911) k12
          refine ⟨_, _, acc ++ [y2], rfl, Same.lst s711 hb, upd_same, ?_⟩
          have h1 : along g [e] = [e.2] := by rw [along, filt_t (fun e : Kn × Va => agr g e.1) hag]; rfl
          rw [htk, along_append, h1, List.map_append]
          exact TsA.append (TsA.keep k912 _ _ ta) (.cons (Ts.keep k912 _ _ ht2) .nil)
        · refine itF (decide_eq_false fun z => hag (hagr.mp z)) ?_
          refine ⟨_, _, acc, rfl, s711, eb11, ?_⟩
          have h1 : along g [e] = [] := by rw [along, filt_f (fun e : Kn × Va => agr g e.1) hag]; rfl
          rw [htk, along_append, h1, List.append_nil]
          exact TsA.keep (TK.of s911) _ _ ta
    · subst hσ
      rw [hy1l, List.take_length, hall g hvd] at ta
      have s69 := Same.trans s7 s9
      obtain ⟨o1, o2, o3, o4⟩ := vals_repr (vs := [ev t g]) (by simp)
      refine ⟨_, rfl, .ref b, tabD [ev t g], rfl, .lst (SqL.of eb) (TsA.dp _ _ ta), rfl, o1, o2, o3, o4, ?_⟩
      have s09 := Same.trans s06 s69
      refine ⟨_, rfl, _, rfl, v, a7, t, m, L, k, g, rfl, Ts.keep (TK.of s09) _ _ ht, hka7.same s9, hw, fun p hp => (hkg p hp).1, hvd, fun x hx => ⟨(by show 1 ≤ sizeLine; decide), fun a12 h12 => ?_⟩⟩
      have s12 := Same.new h12 (.lst [x])
      refine ⟨.ref a12, tabD [ev t g], rfl, .lst (SqL.of upd_same) (.cons (Ts.dp _ _ (Ts.keep (TK.of s12) _ _ hx)) .nil), rfl, o1, o2, o3, o4, rfl, _, rfl, itF (by rw [decide_eq_true rfl]; rfl) ?_⟩
      exact ⟨_, _, _, _, rfl, Same.trans s7 (Same.trans s9 s12)⟩
  · exact kq H7 (Same.trans s06 s7)
end K16

set_option Elab.async false
set_option linter.all false
set_option maxRecDepth 100000
set_option maxHeartbeats 4000000
/-! turn_right. -/
namespace K16
open PySem PySem.Spec PyProof.Rows L2
open Classical
variable {P : Program} {w : World} {K : PySem.W.Frag} {mg : Str → Option Value} {base : Heap}

/-! ### how much the shared form weighs -/
theorem wAll_append : ∀ xs ys : List PyData, PyData.weightAll (xs ++ ys) = PyData.weightAll xs + PyData.weightAll ys
  | [], ys => by rw [List.nil_append]; show _ = 0 + _; omega
  | x :: xs, ys => by
    have := wAll_append xs ys
    show x.weight + 1 + PyData.weightAll (xs ++ ys) = x.weight + 1 + PyData.weightAll xs + PyData.weightAll ys
    omega
def wN (ns : List Nd) : Nat := PyData.weightAll (ns.map nD)
theorem wN_ins (x : Nd) (ns : List Nd) : wN (ins x ns).2 ≤ wN ns + ((nD x).weight + 1) := by
  unfold ins
  split
  · exact Nat.le_add_right _ _
  · show PyData.weightAll ((ns ++ [x]).map nD) ≤ _
    rw [List.map_append, wAll_append]
    show wN ns + ((nD x).weight + 1 + 0) ≤ _
    omega
theorem ins_le (x : Nd) (ns : List Nd) : (ins x ns).1 ≤ ns.length := by
  unfold ins
  split
  · exact List.idxOf_le_length
  · exact Nat.le_refl _
theorem sh_le (t : Tr) (ns : List Nd) : (sh t ns).1 ≤ ns.length + nd t := by
  cases t with
  | fin v =>
    rw [sh]
    have := ins_le (.fin v) ns
    omega
  | ask p bs =>
    rw [sh]
    have h1 := ins_le (.ask p (shs bs ns).1) (shs bs ns).2
    have h2 := shs_len bs ns
    have h3 : nd (.ask p bs) = 1 + nds bs := rfl
    omega
theorem shs_le : ∀ (bs : List Tr) (ns : List Nd), ∀ k ∈ (shs bs ns).1, k ≤ ns.length + nds bs
  | [], ns, k, hk => by rw [shs] at hk; cases hk
  | b :: bs, ns, k, hk => by
    rw [shs] at hk
    rw [nds]
    rcases List.mem_cons.mp hk with rfl | hk
    · have := sh_le b ns
      omega
    · have h1 := shs_le bs (sh b ns).2 k hk
      have h2 := sh_len b ns
      omega
theorem weight_ask {p : Pl} {ks : List Nat} (hp : PlOk p) (hk : ∀ k ∈ ks, k < 10 ^ 19) : (nD (.ask p ks)).weight + 1 ≤ 150 + 65 * ks.length := by
  have h1 := weight_pd hp
  have h2 := weightAll_le (c := 64) (xs := ks.map fun (k : Nat) => PyData.int (k : Int)) fun x hx => by
    obtain ⟨k, hk', rfl⟩ := List.mem_map.mp hx
    exact weight_int (hk k hk')
  rw [List.length_map] at h2
  have h3 : (PyData.str "ask").weight ≤ 8 := by decide +kernel
  have h4 : (nD (.ask p ks)).weight = (PyData.str "ask").weight + 1 + ((pd p).weight + 1 + (PyData.weightAll (ks.map fun (k : Nat) => PyData.int (k : Int)) + 1 + 0)) := rfl
  omega
theorem weight_fin (v : Va) : (nD (.fin v)).weight + 1 ≤ 20 := by
  have h1 := weight_vd v
  have h3 : (PyData.str "end").weight ≤ 8 := by decide +kernel
  have h4 : (nD (.fin v)).weight = (PyData.str "end").weight + 1 + ((vd v).weight + 1 + 0) := rfl
  omega
theorem wN_sh (t : Tr) : ∀ ns, TrOk t → ns.length + nd t ≤ 5000 → wN (sh t ns).2 + 65 ≤ wN ns + 220 * nd t := by
  refine Tr.ind (motive := fun t => ∀ ns, TrOk t → ns.length + nd t ≤ 5000 → wN (sh t ns).2 + 65 ≤ wN ns + 220 * nd t) (fun v ns _ h => ?_) (fun p bs ih ns ht h => ?_) t
  · rw [sh]
    have h1 := wN_ins (.fin v) ns
    have h2 := weight_fin v
    have h3 : nd (.fin v) = 1 := rfl
    omega
  · rw [sh]
    have hnd : nd (.ask p bs) = 1 + nds bs := rfl
    have key : ∀ (cs : List Tr) (ns : List Nd), (∀ b ∈ cs, b ∈ bs) → ns.length + nds cs ≤ 5000 → wN (shs cs ns).2 + 65 * cs.length ≤ wN ns + 220 * nds cs := by
      intro cs
      induction cs with
      | nil => intro ns _ _; exact Nat.le_refl _
      | cons c cs ihc =>
        intro ns hc h
        rw [nds] at h
        have h1 := ih c (hc c (List.mem_cons_self ..)) ns (ht.child (hc c (List.mem_cons_self ..))) (by omega)
        have h2 := sh_len c ns
        have h3 := ihc (sh c ns).2 (fun b hb => hc b (List.mem_cons_of_mem _ hb)) (by omega)
        rw [shs, nds, List.length_cons]
        dsimp only
        omega
    have h1 := key bs ns (fun b hb => hb) (by omega)
    have h2 := wN_ins (.ask p (shs bs ns).1) (shs bs ns).2
    have h3 := weight_ask (p := p) (ks := (shs bs ns).1) ht.root fun k hk => by
      have := shs_le bs ns k hk
      omega
    rw [shs_klen] at h3
    omega
theorem NsOk.nil : NsOk [] := ⟨Ok.nil, fun y hy => absurd hy (by simp), by simp⟩
theorem form_nsOk {t : Tr} (ht : TrOk t) (hn : nd t ≤ 2000) : NsOk (form t) := ⟨form_ok t, sh_pl t [] ht (fun y hy => absurd hy (by simp)), by
  have := sh_len t []
  simp at this
  unfold form
  omega⟩
/-- the data that the law tells of one turn -/
theorem told_repr {t : Tr} (ht : TrOk t) (hn : nd t ≤ 600) (hd : dp t ≤ 20) : (PyData.list [.tuple ((form t).map nD), .tuple ((form t).map nD), tr t, tr t]).showable = true ∧ (PyData.list [.tuple ((form t).map nD), .tuple ((form t).map nD), tr t, tr t]).hasDict = false ∧
    (PyData.list [.tuple ((form t).map nD), .tuple ((form t).map nD), tr t, tr t]).depth ≤ 60 ∧ (PyData.list [.tuple ((form t).map nD), .tuple ((form t).map nD), tr t, tr t]).shown.length ≤ sizeLine := by
  have hF := form_nsOk ht (by omega)
  have hF1 : nice (.tuple ((form t).map nD)) = true := niceAll_mem.mpr hF.nices
  have hF2 : (PyData.tuple ((form t).map nD)).depth ≤ 5 := by
    rw [depth_tuple]
    have : PyData.depthAll ((form t).map nD) ≤ 2 := depthAll_le fun x hx => by
      obtain ⟨y, _, rfl⟩ := List.mem_map.mp hx
      exact depth_nD y
    omega
  have hF3 : (PyData.tuple ((form t).map nD)).weight ≤ 132000 := by
    rw [weight_tuple]
    have h1 := wN_sh t [] ht (by simp; omega)
    have h2 : wN ([] : List Nd) = 0 := rfl
    show wN (sh t []).2 ≤ _
    omega
  have hT1 := nice_tr t ht
  have hT2 := depth_tr t
  have hT3 := weight_tr t ht
  refine nice_repr (niceAll_mem.mpr fun y hy => ?_) ?_ ?_
  · rcases List.mem_cons.mp hy with rfl | hy
    · exact hF1
    rcases List.mem_cons.mp hy with rfl | hy
    · exact hF1
    rcases List.mem_cons.mp hy with rfl | hy
    · exact hT1
    · rw [List.mem_singleton.mp hy]; exact hT1
  · rw [depth_list]
    have : PyData.depthAll [.tuple ((form t).map nD), .tuple ((form t).map nD), tr t, tr t] ≤ 50 := depthAll_le fun y hy => by
      rcases List.mem_cons.mp hy with rfl | hy
      · omega
      rcases List.mem_cons.mp hy with rfl | hy
      · omega
      rcases List.mem_cons.mp hy with rfl | hy
      · omega
      · rw [List.mem_singleton.mp hy]; omega
    omega
  · have h4 : (PyData.list [.tuple ((form t).map nD), .tuple ((form t).map nD), tr t, tr t]).weight = (PyData.tuple ((form t).map nD)).weight + 1 + ((PyData.tuple ((form t).map nD)).weight + 1 + ((tr t).weight + 1 + ((tr t).weight + 1 + 0))) := rfl
    omega
/-- what unshared asks of the form of a tree -/
theorem form_us {t : Tr} (hn : nd t ≤ 2000) : ∀ (j : Nat) (p : Pl) (ks : List Nat), (form t)[j]? = some (.ask p ks) → (∀ k ∈ ks, k < j) ∧ ks.length ≤ 2000 := fun j p ks h => by
  refine ⟨(form_ok t).below j p ks h, ?_⟩
  have h1 := dec_at (form_ok t).below h
  have h2 := (form_mem t _).mp (List.mem_of_getElem? h1)
  have h3 := h2.nd_le
  rw [dc1, nd] at h3
  have h4 := nds_len (ks.map fun k => (dec (form t)).getD k default)
  rw [List.length_map] at h4
  omega
theorem low_same {m : Nat → Nat} {L : List Pl} {t u : Tr} (M : Menu m L) (h : ∀ f, Vd m L f → ev u f = ev t (ovr L zero f)) : low m L (ev u) zero = low m L (ev t) zero := by
  refine low_congr M.nodup M.pos fun g hg => ?_
  rw [h _ (ovr_vdP hg)]
  congr 1
  funext q
  by_cases hq : q ∈ L
  · rw [ovr_all hq, ovr_all hq]
  · rw [ovr_out hq, ovr_out hq]
abbrev sTu : Stmt := top 42
abbrev NTu : List Str := ["_law_m", "_law_sizes", "_law_places", "_law_tree_here", "_law_other", "_law_low", "_law_nodes", "_law_told"]
theorem scTu : FnScope NTu ["_law_m"] (defScope sTu) := ⟨rfl, rfl, rfl, by decide +kernel, rfl, by decide +kernel, by decide +kernel⟩
def spTu : Sp := fun vs H Q _ => ∃ (a c : Addr), vs = [.ref a] ∧ MAt H a c 0 ∧ ∀ H', TM H H' → Q (.bl true) H'
structure TuC (P : Program) (w : World) (K : PySem.W.Frag) (mg : Str → Option Value) (base : Heap) : Prop where
  me : Cal P w K mg base 3 "_law_menu_places" spMe
  dr : Cal P w K mg base 1 "_law_draw" spDr
  tr : Cal P w K mg base (2 + 6) "_law_tree" (spTr 6)
  an : Cal P w K mg base (2 + 6) "_law_anew" (spAn 6)
  lo : Cal P w K mg base (1 + 6) "_law_lowest" (spLo 6)
  hs : Cal P w K mg base (0 + 6) "_law_shared" (spHs 6)
  sh : Cal P w K mg base 10 "shared" spSh
  us : Cal P w K mg base 1 "unshared" spUs
  nc : Cal P w K mg base 1 "node_count" spNc
  tl : CalG P w K mg base 3 "_law_tables_left" spTl
  co : Cal P w K mg base (0 + 6) "_law_count" (spCo 6)
  pr : CalG P w K mg base 7 "_law_parts_right" spPr
theorem ok_tu (D : Def K mg "_law_turn_right" sTu ["_law_m"]) (Z : Bi mg) (CC : TuC P w K mg base) : CalG P w K mg base 11 "_law_turn_right" spTu := by
  refine D.okG scTu (fun vs H Q E h => ?_) (fun f cdv A outer s H vs Q E hr hgu h => ?_)
  · obtain ⟨a, c, rfl, _⟩ := h
    rfl
  obtain ⟨a, c, rfl, hm, kq⟩ := h
  have hu64 := hr.units
  refine ⟨_, (pss_cons (ps_asg (pe_cal CC.me (hr.mono (by omega)) (pa_cons (pv 0) (pa_cons (pe_op op_add pe_int (pe_cal CC.dr (hr.mono (by omega)) (pa_cons (pv 0) (pa_cons pe_int pa_nil)))) pa_nil))) (pg_tup rfl (pgs_cons (pg_name (i := 1) scTu.nd rfl (Or.inl rfl)) (pgs_cons (pg_name (i := 2) scTu.nd rfl (Or.inl rfl)) pgs_nil))))
    (pss_cons (ps_set (i := 3) scTu.nd rfl (Or.inl rfl) (pe_cal CC.tr (hr.mono (by omega)) (pa_cons (pv 0) (pa_cons (pv 1) (pa_cons (pv 2) (pa_cons (pe_op op_add pe_int (pe_cal CC.dr (hr.mono (by omega)) (pa_cons (pv 0) (pa_cons pe_int pa_nil)))) (pa_cons (pe_lst (pa_cons pe_int (pa_cons pe_int (pa_cons pe_int (pa_cons (pe_tup (pa_cons pe_int (pa_cons pe_int pa_nil))) (pa_cons (pe_tup (pa_cons pe_int (pa_cons pe_int pa_nil))) pa_nil)))))) pa_nil)))))))
    (pss_cons (ps_set (i := 4) scTu.nd rfl (Or.inl rfl) (pe_cal CC.an (hr.mono (by omega)) (pa_cons (pv 0) (pa_cons (pv 1) (pa_cons (pv 2) (pa_cons (pv 3) (pa_cons pe_dnewT pa_nil)))))))
    (pss_cons (ps_par (i := 5) (j := 6) (by rfl) scTu.nd rfl rfl (by decide) rfl rfl (pa_cons (pe_cal CC.lo (hr.mono (by omega)) (pa_cons (pv 1) (pa_cons (pv 2) (pa_cons (pv 3) (pa_cons pe_dnewT pa_nil))))) (pa_cons (pe_lst pa_nil) pa_nil)) (by rfl))
    (pss_cons (ps_expr (pe_cal CC.hs (hr.mono (by omega)) (pa_cons (pv 5) (pa_cons (pv 6) pa_nil))))
    (pss_cons (ps_set (i := 7) scTu.nd rfl (Or.inl rfl) (pe_lst (pa_cons (pe_cal CC.sh (hr.mono (by omega)) (pa_cons (pv 1) (pa_cons (pv 3) pa_nil))) (pa_cons (pe_cal CC.sh (hr.mono (by omega)) (pa_cons (pv 1) (pa_cons (pv 4) pa_nil))) (pa_cons (pe_cal CC.us (hr.mono (by omega)) (pa_cons (pe_callTy call_tuple_of (by rfl) Z.tuple (by decide +kernel) (pa_cons (pv 6) pa_nil)) pa_nil)) (pa_cons (pe_cal CC.us (hr.mono (by omega)) (pa_cons (pe_cal CC.sh (hr.mono (by omega)) (pa_cons (pv 1) (pa_cons (pv 4) pa_nil))) pa_nil)) pa_nil))))))
    (pss_cons (ps_if (pt_cmpR op_ne (pe_callB (cr_repr hgu hu64) (by rfl) Z.repr (by decide +kernel) (pa_cons (pv 7) pa_nil)) (pe_callB (cr_repr hgu hu64) (by rfl) Z.repr (by decide +kernel) (pa_cons (pe_lst (pa_cons (pe_callTy call_tuple_of (by rfl) Z.tuple (by decide +kernel) (pa_cons (pv 6) pa_nil)) (pa_cons (pe_callTy call_tuple_of (by rfl) Z.tuple (by decide +kernel) (pa_cons (pv 6) pa_nil)) (pa_cons (pv 5) (pa_cons (pv 5) pa_nil))))) pa_nil)) (nomark _)) (pss_one (ps_ret pe_bl)) pss_nil)
    (pss_cons (ps_set (i := 7) scTu.nd rfl (Or.inl rfl) (pe_lst (pa_cons (pe_callB call_len_seq (by rfl) Z.len PySem.boot_len (pa_cons (pv 6) pa_nil)) (pa_cons (pe_cal CC.nc (hr.mono (by omega)) (pa_cons (pv 3) pa_nil)) (pa_cons (pe_cal CC.nc (hr.mono (by omega)) (pa_cons (pv 5) pa_nil)) pa_nil)))))
    (pss_cons (ps_if (pt_cmpR (op_neD hu64) (pv 7) (pe_lst (pa_cons (pe_calG CC.tl (hr.mono (by omega)) hgu (pa_cons (pv 1) (pa_cons (pv 2) (pa_cons (pv 3) pa_nil)))) (pa_cons (pe_cal CC.co (hr.mono (by omega)) (pa_cons (pv 3) pa_nil)) (pa_cons (pe_cal CC.co (hr.mono (by omega)) (pa_cons (pv 5) pa_nil)) pa_nil)))) (nomark _)) (pss_one (ps_ret pe_bl)) pss_nil)
    (pss_one (ps_ret (pe_and (pe_calG CC.pr (hr.mono (by omega)) hgu (pa_cons (pv 1) (pa_cons (pv 3) (pa_cons (pv 2) pa_nil)))) (pe_one (pe_calG CC.pr (hr.mono (by omega)) hgu (pa_cons (pv 1) (pa_cons (pv 4) (pa_cons (pv 2) pa_nil))))))))))))))))), ?_⟩
  refine ⟨_, rfl, _, rfl, a, c, 5, 0, rfl, hm, by omega, by omega, by omega, fun r1 H1 hr1 tm1 hm1 => ⟨1, _, rfl, rfl, ?_⟩⟩
  have hc1 : (1 : Int) + (r1 : Int) = ((1 + r1 : Nat) : Int) := by omega
  refine ⟨a, c, 1 + r1, 1, (by show [V.ref a, V.int (1 + (r1 : Int))] = _; rw [hc1]), hm1, by omega, by omega, fun rp sz l m L H2 tm2 hm2 erp hsz hl M => ?_⟩
  refine ⟨rp, _, rfl, SqT.of erp, rfl, _, _, rfl, _, _, rfl, rfl, ?_⟩
  have tm02 := TM.trans tm1 tm2
  refine ⟨_, rfl, _, rfl, _, rfl, _, rfl, a, c, 5, 1 + 12, rfl, hm2, by omega, by omega, by omega, fun r3 H3 hr3 tm3 hm3 => ⟨1, _, rfl, rfl, ?_⟩⟩
  refine ⟨(by show 2 ≤ sizeLine; decide), fun v1 g1 => ⟨(by show 2 ≤ sizeLine; decide), fun v2 g2 => ⟨(by show 5 ≤ sizeLine; decide), fun v3 g3 => ?_⟩⟩⟩
  generalize f1 : upd H3 v1 _ = G1 at *
  obtain ⟨t1, k1⟩ := Same.eqn g1 f1
  generalize f2 : upd G1 v2 _ = G2 at *
  obtain ⟨t2, k2⟩ := Same.eqn g2 f2
  generalize f3 : upd G2 v3 _ = G3 at *
  obtain ⟨t3, k3⟩ := Same.eqn g3 f3
  have t13 := Same.trans t1 (Same.trans t2 t3)
  have tm23 := TM.trans tm3 (TM.of t13)
  have tm03 := TM.trans tm02 tm23
  have hvs : VsAt G3 v3 := ⟨_, k3, (by show 0 < 5; decide), (by show 5 ≤ 1000; decide), fun x hx => by
    rcases List.mem_cons.mp hx with rfl | hx
    · exact ⟨.z, .int 0⟩
    rcases List.mem_cons.mp hx with rfl | hx
    · exact ⟨.o, .int 1⟩
    rcases List.mem_cons.mp hx with rfl | hx
    · exact ⟨.o, .int 1⟩
    rcases List.mem_cons.mp hx with rfl | hx
    · exact ⟨.zo, .tup (t3 _ _ (t2 _ _ k1)) (.cons (.int 0) (.cons (.int 1) .nil))⟩
    · rw [List.mem_singleton.mp hx]
      exact ⟨.zz, .tup (t3 _ _ k2) (.cons (.int 0) (.cons (.int 0) .nil))⟩⟩
  have hL5 := M.len
  have hprd := M.prd
  refine ⟨a, c, sz, l, v3, _, 1 + 12 + 1, m, L, rfl, hm3.same t13, by omega, hsz.tk tm23.td, hl.tm tm23, M.lok, hvs, by omega, fun vt t H4 tm4 hm4 ht hw => ?_⟩
  have tm04 := TM.trans tm03 tm4
  have tm24 := TM.trans tm23 tm4
  refine ⟨_, rfl, _, rfl, _, rfl, _, rfl, fun fa hfa => ?_⟩
  generalize d5 : upd H4 fa _ = H5 at *
  obtain ⟨s5, e5⟩ := Same.eqn hfa d5
  have tm25 := TM.trans tm24 (TM.of s5)
  refine ⟨a, c, sz, l, fa, vt, 1 + 12 + 1 + (3 * prd m L - 2), m, L, [], L, t, _, zero, rfl, hm4.same s5, by omega, hsz.tk tm25.td, hl.tm tm25, M.lok, M, hw, fun p hp => hp, Ts.keep (TK.of s5) _ _ ht, KnAt.nil e5, agr_nil m zero, fun p hp => .inr hp, by omega, fun vo u H6 tm6 hm6 hou hwu hev => ?_⟩
  have tm26 := TM.trans tm25 tm6
  have tm06 := TM.trans tm02 tm26
  have ht6 : TrAt H6 vt t := Ts.keep (TM.trans (TM.of s5) tm6).td _ _ ht
  have hsz6 := hsz.tk tm26.td
  have hl6 := hl.tm tm26
  have hlows := low_same M hev
  refine ⟨_, rfl, _, rfl, _, rfl, fun fa2 hfa2 => ?_⟩
  generalize d7 : upd H6 fa2 _ = H7 at *
  obtain ⟨s7, e7⟩ := Same.eqn hfa2 d7
  refine ⟨sz, l, fa2, vt, m, L, [], L, t, _, zero, rfl, hsz6.tk (TK.of s7), hl6.same s7, Ts.keep (TK.of s7) _ _ ht6, KnAt.nil e7, M, hw, M.nodup, fun p hp => hp, agr_nil m zero, fun p hp => .inr hp, by omega, fun vl H8 s8 hlow => ⟨Nat.zero_le _, fun nl hnl => ⟨_, _, rfl, ?_⟩⟩⟩
  have hwl : Wf m L (low m L (ev t) zero) := low_wf M.nodup M.pos
  have hcount := count_eq (F := ev t) M.nodup M.pos
  generalize hlw : low m L (ev t) zero = lw at *
  have hto := M.trOk hwl
  have hnl2 := M.nodes hwl
  have hdl := hwl.dep
  generalize d9 : upd H8 nl _ = H9 at *
  obtain ⟨s9, e9⟩ := Same.eqn hnl d9
  have s69 := Same.trans s7 (Same.trans s8 s9)
  have hlow9 := Ts.keep (TK.of s9) _ _ hlow
  refine ⟨_, rfl, _, rfl, vl, nl, [], lw, [], rfl, hlow9, e9, .nil, NsOk.nil, by simp; omega, hto, by omega, fun H10 ys10 sb10 e10 ty10 => ?_⟩
  have ty10 : TsA H10 ys10 ((form lw).map nD) := ty10
  have s810 : Same H8 H10 := SameBut.same sb10 s9 (fun a ha => by rw [List.mem_singleton.mp ha]; exact hnl)
  have s610 := Same.trans s7 (Same.trans s8 s810)
  have ht10 := Ts.keep (TK.of s610) _ _ ht6
  have hou10 := Ts.keep (TK.of s610) _ _ hou
  have hlow10 := Ts.keep (TK.of s810) _ _ hlow
  have hus := form_us (t := lw) (by omega)
  have hfl : (form lw).length ≤ 5000 := (form_nsOk hto (by omega)).2.2
  obtain ⟨o1, o2, o3, o4⟩ := told_repr hto (by omega) (by omega)
  refine ⟨_, rfl, _, rfl, _, vt, t, m, L, rfl, ht10, M, hw, fun ra ya H11 s11 era tya => ?_⟩
  rw [hlw] at tya
  refine ⟨_, rfl, _, rfl, _, vo, u, m, L, rfl, Ts.keep (TK.of s11) _ _ hou10, M, hwu, fun rb yb H12 s12 erb tyb => ?_⟩
  rw [hlows] at tyb
  have s1012 := Same.trans s11 s12
  refine ⟨_, rfl, nl, ys10, rfl, .inl ⟨SqL.of (s1012 _ _ e10), fun p13 h13 => ?_⟩⟩
  generalize d13 : upd H12 p13 _ = H13 at *
  obtain ⟨s13, e13⟩ := Same.eqn h13 d13
  have s1013 := Same.trans s1012 s13
  refine ⟨p13, ys10, form lw, lw, rfl, e13, TsA.keep (TK.of s1013) _ _ ty10, hus, hfl, form_last lw, fun rc H14 s14 hrc => ?_⟩
  have s1014 := Same.trans s1013 s14
  refine ⟨_, rfl, _, rfl, _, vo, u, m, L, rfl, Ts.keep (TK.of s1014) _ _ hou10, M, hwu, fun rd yd H15 s15 erd tyd => ?_⟩
  rw [hlows] at tyd
  refine ⟨rd, yd, form lw, lw, rfl, erd, tyd, hus, hfl, form_last lw, fun re H16 s16 hre => ⟨(by show 4 ≤ sizeLine; decide), fun p17 h17 => ?_⟩⟩
  generalize d17 : upd H16 p17 _ = H17 at *
  obtain ⟨s17, e17⟩ := Same.eqn h17 d17
  have s1417 := Same.trans s15 (Same.trans s16 s17)
  have s1217 := Same.trans s13 (Same.trans s14 s1417)
  have s1117 := Same.trans s12 s1217
  have s1017 := Same.trans s11 s1117
  refine ⟨_, rfl, .ref p17, .list [.tuple ((form lw).map nD), .tuple ((form lw).map nD), K16.tr lw, K16.tr lw], rfl, .lst (SqL.of e17) (.cons (Ts.dp _ _ (.tup (s1117 _ _ era) (TsA.keep (TK.of s1117) _ _ tya))) (.cons (Ts.dp _ _ (.tup (s1217 _ _ erb) (TsA.keep (TK.of s1217) _ _ tyb))) (.cons (Ts.dp _ _ (Ts.keep (TK.of s1417) _ _ hrc)) (.cons (Ts.dp _ _ (Ts.keep (TK.of s17) _ _ hre)) .nil)))), rfl, o1, o2, o3, o4, ?_⟩
  refine ⟨_, rfl, nl, ys10, rfl, .inl ⟨SqL.of (s1017 _ _ e10), fun p18 h18 => ?_⟩⟩
  generalize d18 : upd H17 p18 _ = H18 at *
  obtain ⟨s18, e18⟩ := Same.eqn h18 d18
  have s1018 := Same.trans s1017 s18
  refine ⟨_, rfl, nl, ys10, rfl, .inl ⟨SqL.of (s1018 _ _ e10), fun p19 h19 => ?_⟩⟩
  generalize d19 : upd H18 p19 _ = H19 at *
  obtain ⟨s19, e19⟩ := Same.eqn h19 d19
  have s1019 := Same.trans s1018 s19
  refine ⟨_, rfl, _, rfl, (by show 4 ≤ sizeLine; decide), fun p20 h20 => ?_⟩
  generalize d20 : upd H19 p20 _ = H20 at *
  obtain ⟨s20, e20⟩ := Same.eqn h20 d20
  have s1020 := Same.trans s1019 s20
  have hl20 := Ts.dp (K := K) _ _ (Ts.keep (TK.of s1020) _ _ hlow10)
  have ty20 := TsA.keep (TK.of s1020) _ _ ty10
  refine ⟨.ref p20, .list [.tuple ((form lw).map nD), .tuple ((form lw).map nD), K16.tr lw, K16.tr lw], rfl, .lst (SqL.of e20) (.cons (Ts.dp _ _ (.tup (s20 _ _ (s19 _ _ e18)) ty20)) (.cons (Ts.dp _ _ (.tup (s20 _ _ e19) ty20)) (.cons hl20 (.cons hl20 .nil)))), rfl, o1, o2, o3, o4, rfl, _, rfl, itF (by rw [decide_eq_true rfl]; rfl) ?_⟩
  have hyl : ys10.length = (form lw).length := by rw [ty10.length, List.length_map]
  have hnt := M.nodes hw
  refine ⟨_, rfl, nl, ys10, rfl, .inl (SqL.of (s1020 _ _ e10)), _, rfl, vt, t, rfl, Ts.keep (TK.of s1020) _ _ ht10, by omega, fun H21 s21 => ?_⟩
  have s1021 := Same.trans s1020 s21
  refine ⟨_, rfl, vl, lw, rfl, Ts.keep (TK.of s1021) _ _ hlow10, by omega, fun H22 s22 => ⟨(by show 3 ≤ sizeLine; decide), fun p23 h23 => ?_⟩⟩
  have s1022 := Same.trans s1021 s22
  generalize d23 : upd H22 p23 _ = H23 at *
  obtain ⟨s23, e23⟩ := Same.eqn h23 d23
  have s1023 := Same.trans s1022 s23
  have s623 := Same.trans s610 s1023
  refine ⟨_, rfl, _, rfl, _, rfl, _, rfl, sz, l, vt, m, L, t, rfl, hsz6.tk (TK.of s623), hl6.same s623, Ts.keep (TK.of s623) _ _ ht6, M, hw, fun H24 s24 => ?_⟩
  have s1024 := Same.trans s1023 s24
  have hdt := hw.dep
  refine ⟨_, rfl, vt, t, rfl, Ts.keep (TK.of s1024) _ _ ht10, by omega, by omega, fun H25 s25 => ?_⟩
  have s1025 := Same.trans s1024 s25
  refine ⟨_, rfl, vl, lw, rfl, Ts.keep (TK.of s1025) _ _ hlow10, by omega, by omega, fun H26 s26 => ⟨(by show 3 ≤ sizeLine; decide), fun p27 h27 => ?_⟩⟩
  generalize d27 : upd H26 p27 _ = H27 at *
  obtain ⟨s27, e27⟩ := Same.eqn h27 d27
  have s2327 := Same.trans s24 (Same.trans s25 (Same.trans s26 s27))
  have s627 := Same.trans s623 s2327
  rw [hcount] at e27
  rw [hyl] at e23
  have hn3 : ∀ y ∈ [PyData.int ((form lw).length : Int), .int (nd t : Int), .int (nd lw : Int)], nice y = true := fun y hy => by
    rcases List.mem_cons.mp hy with rfl | hy
    · exact nice_int (by omega)
    rcases List.mem_cons.mp hy with rfl | hy
    · exact nice_int (by omega)
    · rw [List.mem_singleton.mp hy]; exact nice_int (by omega)
  have hsh : SeqAt.shaped (.list [PyData.int ((form lw).length : Int), .int (nd t : Int), .int (nd lw : Int)]) = true := shaped_list hn3 fun y hy => by
    rcases List.mem_cons.mp hy with rfl | hy
    · exact Nat.zero_le _
    rcases List.mem_cons.mp hy with rfl | hy
    · exact Nat.zero_le _
    · rw [List.mem_singleton.mp hy]; exact Nat.zero_le _
  refine ⟨_, _, .lst (SqL.of (s2327 _ _ e23)) (.cons (.int _) (.cons (.int _) (.cons (.int _) .nil))), .lst (SqL.of e27) (.cons (.int _) (.cons (.int _) (.cons (.int _) .nil))), hsh, hsh, _, rfl, itF ?_ ?_⟩
  · rw [eqv_list hn3 hn3, decide_eq_true rfl]
    rfl
  refine ⟨_, rfl, _, rfl, _, rfl, sz, l, vt, m, L, t, rfl, hsz6.tk (TK.of s627), hl6.same s627, Ts.keep (TK.of s627) _ _ ht6, M, hw, fun H28 s28 => ⟨true, rfl, itT rfl ?_⟩⟩
  have s628 := Same.trans s627 s28
  refine ⟨_, rfl, _, rfl, _, rfl, sz, l, vo, m, L, u, rfl, hsz6.tk (TK.of s628), hl6.same s628, Ts.keep (TK.of s628) _ _ hou, M, hwu, fun H29 s29 => kq H29 (TM.trans tm06 (TM.of (Same.trans s628 s29)))⟩
end K16

set_option Elab.async false
set_option linter.all false
set_option maxRecDepth 100000
set_option maxHeartbeats 4000000
/-! hand_right, law. -/
namespace K16
open PySem PySem.Spec PyProof.Rows L2
open Classical
variable {P : Program} {w : World} {K : PySem.W.Frag} {mg : Str → Option Value} {base : Heap}
theorem TM.sql {K : PySem.W.Frag} {H H' : Hp} {a : Addr} {xs : List V} (t : TM H H') (h : SqL K H a xs) : SqL K H' a xs := by
  rcases h with h | h
  · rcases h with h | ⟨o, h⟩
    · exact .inl (.inl (t _ _ (fun _ z => nomatch z) h))
    · exact .inl (.inr ⟨o, t _ _ (fun _ z => nomatch z) h⟩)
  · exact .inr h
/-! ### the hand-made case -/
def hM : Nat → Nat := fun i => [2].getD i 0
def hP : Pl := (0, 0)
def hQ : Pl := (1, 0)
def hT : Tr := .ask hP [.ask hQ [.fin .o, .fin .z], .ask hQ [.fin .z, .fin .o]]
def hN : List Nd := [.fin .o, .fin .z, .ask hQ [0, 1], .ask hQ [1, 0], .ask hP [2, 3]]
theorem hMenu : Menu hM [hP, hQ] := ⟨List.pairwise_cons.mpr ⟨fun q hq => by
  rw [List.mem_singleton.mp hq]
  exact .inl (by decide), List.pairwise_singleton ..⟩, by decide, by decide +kernel, by decide, by decide⟩
theorem hFin (P : List Pl) (a b : Va) : ∀ t ∈ [Tr.fin a, Tr.fin b], Wf hM P t := fun t ht => by
  rcases List.mem_cons.mp ht with rfl | ht
  · exact .fin
  · rw [List.mem_singleton.mp ht]; exact .fin
theorem hWf : Wf hM [hP, hQ] hT := by
  have hq : hQ ∈ rem [hP, hQ] hP := by decide
  refine .ask (List.mem_cons_self ..) rfl fun t ht => ?_
  rcases List.mem_cons.mp ht with rfl | ht
  · exact .ask hq rfl (hFin _ _ _)
  · rw [List.mem_singleton.mp ht]
    exact .ask hq rfl (hFin _ _ _)
theorem mk_two {p : Pl} {a b : Tr} (h : b ≠ a) : mk p [a, b] = .ask p [a, b] := by
  unfold mk
  rw [if_neg]
  intro z
  exact h (z b (by simp))
theorem hLow : low hM [hP, hQ] (ev hT) zero = hT := by
  have h2 : List.range 2 = [0, 1] := by decide
  have e : ∀ r, low hM [hQ] (ev hT) r = mk hQ [.fin (ev hT (st r hQ 0)), .fin (ev hT (st r hQ 1))] := fun r => by
    show mk hQ ((List.range 2).map _) = _
    rw [h2]
    rfl
  show mk hP ((List.range 2).map fun d => low hM [hQ] (ev hT) (st zero hP d)) = _
  rw [h2, List.map_cons, List.map_cons, List.map_nil, e, e]
  have e1 : ev hT (st (st zero hP 0) hQ 0) = .o := by decide
  have e2 : ev hT (st (st zero hP 0) hQ 1) = .z := by decide
  have e3 : ev hT (st (st zero hP 1) hQ 0) = .z := by decide
  have e4 : ev hT (st (st zero hP 1) hQ 1) = .o := by decide
  have n1 : Tr.fin .z ≠ Tr.fin .o := fun h => by cases h
  have n2 : Tr.fin .o ≠ Tr.fin .z := fun h => by cases h
  rw [e1, e2, e3, e4, mk_two n1, mk_two n2, mk_two]
  · rfl
  · intro h
    have h1 := (Tr.ask.inj h).2
    have h2 := (List.cons.inj h1).1
    cases h2
theorem hForm : form hT = hN := by decide
theorem hUs : ∀ (j : Nat) (p : Pl) (ks : List Nat), hN[j]? = some (.ask p ks) → (∀ k ∈ ks, k < j) ∧ ks.length ≤ 2000 := by
  rw [← hForm]
  exact form_us (by decide)
theorem hRepr : (PyData.list [.tuple (hN.map nD), tr hT]).showable = true ∧ (PyData.list [.tuple (hN.map nD), tr hT]).hasDict = false ∧ (PyData.list [.tuple (hN.map nD), tr hT]).depth ≤ 60 ∧ (PyData.list [.tuple (hN.map nD), tr hT]).shown.length ≤ sizeLine :=
  nice_repr (by decide +kernel) (by decide +kernel) (by decide +kernel)
abbrev sHr : Stmt := top 43
abbrev NHr : List Str := ["_law_yes", "_law_no", "_law_tree_here", "_law_due"]
theorem scHr : FnScope NHr [] (defScope sHr) := ⟨rfl, rfl, rfl, by decide +kernel, rfl, by decide +kernel, by decide +kernel⟩
def spHr : Sp := fun vs H Q _ => vs = [] ∧ ∀ H', Same H H' → Q (.bl true) H'
theorem ok_hr (D : Def K mg "_law_hand_right" sHr []) (Z : Bi mg) (C_shared : Cal P w K mg base 10 "shared" spSh) (C_unshared : Cal P w K mg base 1 "unshared" spUs) : CalG P w K mg base 11 "_law_hand_right" spHr := by
  refine D.okG scHr (fun vs H Q E h => ?_) (fun f cdv A outer s H vs Q E hr hgu h => ?_)
  · rw [h.1]
    rfl
  obtain ⟨rfl, kq⟩ := h
  have hu64 := hr.units
  refine ⟨_, (pss_cons (ps_asg (pe_tup (pa_cons (pe_tup (pa_cons pe_str (pa_cons pe_int pa_nil))) (pa_cons (pe_tup (pa_cons pe_str (pa_cons pe_int pa_nil))) pa_nil))) (pg_tup rfl (pgs_cons (pg_name (i := 0) scHr.nd rfl (Or.inl rfl)) (pgs_cons (pg_name (i := 1) scHr.nd rfl (Or.inl rfl)) pgs_nil))))
    (pss_cons (ps_set (i := 2) scHr.nd rfl (Or.inl rfl) (pe_tup (pa_cons pe_str (pa_cons (pe_tup (pa_cons pe_int (pa_cons pe_int pa_nil))) (pa_cons (pe_tup (pa_cons (pe_tup (pa_cons pe_str (pa_cons (pe_tup (pa_cons pe_int (pa_cons pe_int pa_nil))) (pa_cons (pe_tup (pa_cons (pv 0) (pa_cons (pv 1) pa_nil))) pa_nil)))) (pa_cons (pe_tup (pa_cons pe_str (pa_cons (pe_tup (pa_cons pe_int (pa_cons pe_int pa_nil))) (pa_cons (pe_tup (pa_cons (pv 1) (pa_cons (pv 0) pa_nil))) pa_nil)))) pa_nil))) pa_nil)))))
    (pss_cons (ps_set (i := 3) scHr.nd rfl (Or.inl rfl) (pe_tup (pa_cons (pv 0) (pa_cons (pv 1) (pa_cons (pe_tup (pa_cons pe_str (pa_cons (pe_tup (pa_cons pe_int (pa_cons pe_int pa_nil))) (pa_cons (pe_tup (pa_cons pe_int (pa_cons pe_int pa_nil))) pa_nil)))) (pa_cons (pe_tup (pa_cons pe_str (pa_cons (pe_tup (pa_cons pe_int (pa_cons pe_int pa_nil))) (pa_cons (pe_tup (pa_cons pe_int (pa_cons pe_int pa_nil))) pa_nil)))) (pa_cons (pe_tup (pa_cons pe_str (pa_cons (pe_tup (pa_cons pe_int (pa_cons pe_int pa_nil))) (pa_cons (pe_tup (pa_cons pe_int (pa_cons pe_int pa_nil))) pa_nil)))) pa_nil)))))))
    (pss_one (ps_ret (pe_cmpR op_eq (pe_callB (cr_repr hgu hu64) (by rfl) Z.repr (by decide +kernel) (pa_cons (pe_lst (pa_cons (pe_cal C_shared (hr.mono (by omega)) (pa_cons (pe_tup (pa_cons pe_int pa_nil)) (pa_cons (pv 2) pa_nil))) (pa_cons (pe_cal C_unshared (hr.mono (by omega)) (pa_cons (pv 3) pa_nil)) pa_nil))) pa_nil)) (pe_callB (cr_repr hgu hu64) (by rfl) Z.repr (by decide +kernel) (pa_cons (pe_lst (pa_cons (pv 3) (pa_cons (pv 2) pa_nil))) pa_nil)) (nomark _))))))), ?_⟩
  refine ⟨(by show 2 ≤ sizeLine; decide), fun a1 g1 => ⟨(by show 2 ≤ sizeLine; decide), fun a0 g0 => ⟨(by show 2 ≤ sizeLine; decide), fun ax gx => ⟨ax, _, rfl, SqT.of upd_same, rfl, _, _, rfl, _, _, rfl, rfl, ?_⟩⟩⟩⟩
  generalize d_a1 : upd H a1 _ = K_a1 at *
  obtain ⟨s_a1, e_a1⟩ := Same.eqn g1 d_a1
  generalize d_a0 : upd K_a1 a0 _ = K_a0 at *
  obtain ⟨s_a0, e_a0⟩ := Same.eqn g0 d_a0
  refine ⟨(by show 2 ≤ sizeLine; decide), fun b1 h1 => ⟨(by show 2 ≤ sizeLine; decide), fun b2 h2 => ⟨_, rfl, _, rfl, (by show 2 ≤ sizeLine; decide), fun b3 h3 => ⟨(by show 3 ≤ sizeLine; decide), fun b4 h4 => ⟨(by show 2 ≤ sizeLine; decide), fun b5 h5 => ⟨_, rfl, _, rfl, (by show 2 ≤ sizeLine; decide), fun b6 h6 => ⟨(by show 3 ≤ sizeLine; decide), fun b7 h7 => ⟨(by show 2 ≤ sizeLine; decide), fun b8 h8 => ⟨(by show 3 ≤ sizeLine; decide), fun b9 h9 => ?_⟩⟩⟩⟩⟩⟩⟩⟩⟩
  generalize d_ax : upd K_a0 ax _ = K_ax at *
  obtain ⟨s_ax, e_ax⟩ := Same.eqn gx d_ax
  generalize d_b1 : upd K_ax b1 _ = K_b1 at *
  obtain ⟨s_b1, e_b1⟩ := Same.eqn h1 d_b1
  generalize d_b2 : upd K_b1 b2 _ = K_b2 at *
  obtain ⟨s_b2, e_b2⟩ := Same.eqn h2 d_b2
  generalize d_b3 : upd K_b2 b3 _ = K_b3 at *
  obtain ⟨s_b3, e_b3⟩ := Same.eqn h3 d_b3
  generalize d_b4 : upd K_b3 b4 _ = K_b4 at *
  obtain ⟨s_b4, e_b4⟩ := Same.eqn h4 d_b4
  generalize d_b5 : upd K_b4 b5 _ = K_b5 at *
  obtain ⟨s_b5, e_b5⟩ := Same.eqn h5 d_b5
  generalize d_b6 : upd K_b5 b6 _ = K_b6 at *
  obtain ⟨s_b6, e_b6⟩ := Same.eqn h6 d_b6
  generalize d_b7 : upd K_b6 b7 _ = K_b7 at *
  obtain ⟨s_b7, e_b7⟩ := Same.eqn h7 d_b7
  generalize d_b8 : upd K_b7 b8 _ = K_b8 at *
  obtain ⟨s_b8, e_b8⟩ := Same.eqn h8 d_b8
  generalize d_b9 : upd K_b8 b9 _ = K_b9 at *
  obtain ⟨s_b9, e_b9⟩ := Same.eqn h9 d_b9
  refine ⟨_, rfl, _, rfl, (by show 2 ≤ sizeLine; decide), fun c1 i1 => ⟨(by show 2 ≤ sizeLine; decide), fun c2 i2 => ⟨(by show 3 ≤ sizeLine; decide), fun c3 i3 => ⟨(by show 2 ≤ sizeLine; decide), fun c4 i4 => ⟨(by show 2 ≤ sizeLine; decide), fun c5 i5 => ⟨(by show 3 ≤ sizeLine; decide), fun c6 i6 => ⟨(by show 2 ≤ sizeLine; decide), fun c7 i7 => ⟨(by show 2 ≤ sizeLine; decide), fun c8 i8 => ⟨(by show 3 ≤ sizeLine; decide), fun c9 i9 => ⟨(by show 5 ≤ sizeLine; decide), fun c10 i10 => ?_⟩⟩⟩⟩⟩⟩⟩⟩⟩⟩
  generalize d_c1 : upd K_b9 c1 _ = K_c1 at *
  obtain ⟨s_c1, e_c1⟩ := Same.eqn i1 d_c1
  generalize d_c2 : upd K_c1 c2 _ = K_c2 at *
  obtain ⟨s_c2, e_c2⟩ := Same.eqn i2 d_c2
  generalize d_c3 : upd K_c2 c3 _ = K_c3 at *
  obtain ⟨s_c3, e_c3⟩ := Same.eqn i3 d_c3
  generalize d_c4 : upd K_c3 c4 _ = K_c4 at *
  obtain ⟨s_c4, e_c4⟩ := Same.eqn i4 d_c4
  generalize d_c5 : upd K_c4 c5 _ = K_c5 at *
  obtain ⟨s_c5, e_c5⟩ := Same.eqn i5 d_c5
  generalize d_c6 : upd K_c5 c6 _ = K_c6 at *
  obtain ⟨s_c6, e_c6⟩ := Same.eqn i6 d_c6
  generalize d_c7 : upd K_c6 c7 _ = K_c7 at *
  obtain ⟨s_c7, e_c7⟩ := Same.eqn i7 d_c7
  generalize d_c8 : upd K_c7 c8 _ = K_c8 at *
  obtain ⟨s_c8, e_c8⟩ := Same.eqn i8 d_c8
  generalize d_c9 : upd K_c8 c9 _ = K_c9 at *
  obtain ⟨s_c9, e_c9⟩ := Same.eqn i9 d_c9
  generalize d_c10 : upd K_c9 c10 _ = K_c10 at *
  obtain ⟨s_c10, e_c10⟩ := Same.eqn i10 d_c10
  have SC10 : Same K_c10 K_c10 := Same.refl _
  have SC9 := Same.trans s_c10 SC10
  have SC8 := Same.trans s_c9 SC9
  have SC7 := Same.trans s_c8 SC8
  have SC6 := Same.trans s_c7 SC7
  have SC5 := Same.trans s_c6 SC6
  have SC4 := Same.trans s_c5 SC5
  have SC3 := Same.trans s_c4 SC4
  have SC2 := Same.trans s_c3 SC3
  have SC1 := Same.trans s_c2 SC2
  have SB9 := Same.trans s_c1 SC1
  have SB8 := Same.trans s_b9 SB9
  have SB7 := Same.trans s_b8 SB8
  have SB6 := Same.trans s_b7 SB7
  have SB5 := Same.trans s_b6 SB6
  have SB4 := Same.trans s_b5 SB5
  have SB3 := Same.trans s_b4 SB4
  have SB2 := Same.trans s_b3 SB3
  have SB1 := Same.trans s_b2 SB2
  have SAX := Same.trans s_b1 SB1
  have SA0 := Same.trans s_ax SAX
  have SA1 := Same.trans s_a0 SA0
  have S03 := Same.trans s_a1 SA1
  generalize K_c10 = H3 at *
  have hyes : Ts H3 (.ref a1) (K16.tr (.fin .o)) := .tup (SA1 _ _ e_a1) (.cons (.str _) (.cons (.int 1) .nil))
  have hno : Ts H3 (.ref a0) (K16.tr (.fin .z)) := .tup (SA0 _ _ e_a0) (.cons (.str _) (.cons (.int 0) .nil))
  have hask1 : TrAt H3 (.ref b4) (.ask hQ [.fin .o, .fin .z]) := .tup (SB4 _ _ e_b4) (.cons (.str _) (.cons (PlAt_mk (p := hQ) (SB2 _ _ e_b2)) (.cons (.tup (SB3 _ _ e_b3) (.cons hyes (.cons hno .nil))) .nil)))
  have hask2 : TrAt H3 (.ref b7) (.ask hQ [.fin .z, .fin .o]) := .tup (SB7 _ _ e_b7) (.cons (.str _) (.cons (PlAt_mk (p := hQ) (SB5 _ _ e_b5)) (.cons (.tup (SB6 _ _ e_b6) (.cons hno (.cons hyes .nil))) .nil)))
  have htree : TrAt H3 (.ref b9) hT := .tup (SB9 _ _ e_b9) (.cons (.str _) (.cons (PlAt_mk (p := hP) (SB1 _ _ e_b1)) (.cons (.tup (SB8 _ _ e_b8) (.cons hask1 (.cons hask2 .nil))) .nil)))
  have hdue : TsA H3 [.ref a1, .ref a0, .ref c3, .ref c6, .ref c9] (hN.map nD) := .cons hyes (.cons hno (.cons (.tup (SC3 _ _ e_c3) (.cons (.str _) (.cons (PlAt_mk (p := hQ) (SC1 _ _ e_c1)) (.cons (.tup (SC2 _ _ e_c2) (.cons (.int 0) (.cons (.int 1) .nil))) .nil))))
    (.cons (.tup (SC6 _ _ e_c6) (.cons (.str _) (.cons (PlAt_mk (p := hQ) (SC4 _ _ e_c4)) (.cons (.tup (SC5 _ _ e_c5) (.cons (.int 1) (.cons (.int 0) .nil))) .nil)))) (.cons (.tup (SC9 _ _ e_c9) (.cons (.str _) (.cons (PlAt_mk (p := hP) (SC7 _ _ e_c7)) (.cons (.tup (SC8 _ _ e_c8) (.cons (.int 2) (.cons (.int 3) .nil))) .nil)))) .nil))))
  have edue : H3 c10 = some (.tup [.ref a1, .ref a0, .ref c3, .ref c6, .ref c9]) := e_c10
  refine ⟨(by show 1 ≤ sizeLine; decide), fun p4 j4 => ?_⟩
  have s4 := Same.new j4 (.tup [V.int 2])
  refine ⟨_, rfl, _, .ref b9, hT, hM, [hP, hQ], rfl, Ts.keep (TK.of s4) _ _ htree, hMenu, hWf, fun ra ya H5 s5 era tya => ?_⟩
  rw [hLow, hForm] at tya
  have s35 := Same.trans s4 s5
  refine ⟨_, rfl, c10, _, hN, hT, rfl, s35 _ _ edue, TsA.keep (TK.of s35) _ _ hdue, hUs, (by decide), (by rw [← hForm]; exact form_last hT), fun rb H6 s6 hrb => ⟨(by show 2 ≤ sizeLine; decide), fun p7 j7 => ?_⟩⟩
  have s7 := Same.new j7 (.lst [V.ref ra, rb])
  have s37 := Same.trans s35 (Same.trans s6 s7)
  have s57 := Same.trans s6 s7
  obtain ⟨o1, o2, o3, o4⟩ := hRepr
  refine ⟨.ref p7, .list [.tuple (hN.map nD), K16.tr hT], rfl, .lst (SqL.of upd_same) (.cons (Ts.dp _ _ (.tup (s57 _ _ era) (TsA.keep (TK.of s57) _ _ tya))) (.cons (Ts.dp _ _ (Ts.keep (TK.of s7) _ _ hrb)) .nil)), rfl, o1, o2, o3, o4, ?_⟩
  refine ⟨_, rfl, _, rfl, (by show 2 ≤ sizeLine; decide), fun p8 j8 => ?_⟩
  have s8 := Same.new j8 (.lst [V.ref c10, V.ref b9])
  have s38 := Same.trans s37 s8
  refine ⟨.ref p8, .list [.tuple (hN.map nD), K16.tr hT], rfl, .lst (SqL.of upd_same) (.cons (Ts.dp _ _ (.tup (s38 _ _ edue) (TsA.keep (TK.of s38) _ _ hdue))) (.cons (Ts.dp _ _ (Ts.keep (TK.of s38) _ _ htree)) .nil)), rfl, o1, o2, o3, o4, rfl, ?_⟩
  have hfin := kq _ (Same.trans S03 s38)
  rw [decide_eq_true rfl]
  exact hfin

/-! ### law -/
abbrev sLw : Stmt := top 44
abbrev NLw : List Str := ["_law_script", "_law_k"]
theorem scLw : FnScope NLw ["_law_script"] (defScope sLw) := ⟨rfl, rfl, rfl, by decide +kernel, rfl, by decide +kernel, by decide +kernel⟩
def spLaw (K : PySem.W.Frag) : Sp := fun vs H Q _ => ∃ (a : Addr) (ns : List Int), vs = [.ref a] ∧ SqL K H a (ns.map V.int) ∧ ns.length ≤ 63 ∧ ∀ H', Q (.bl true) H'
theorem ok_lw {f : Addr} {fd : FuncData} (F : Fun K "law" "law" sLw f fd) (Z : Bi mg) (C__law_hand_right : CalG P w K mg base 11 "_law_hand_right" spHr) (C__law_turn_right : CalG P w K mg base 11 "_law_turn_right" spTu) (C__law_begun : Cal P w K mg base 1 "_law_begun" (spBe K)) : FnG P w K mg base 12 f fd ["_law_script"] (spLaw K) := by
  refine K16.okG F scLw (fun vs H Q E h => ?_) (fun cdv A outer s H vs Q E hr hgu h => ?_)
  · obtain ⟨a, ns, rfl, _⟩ := h
    rfl
  obtain ⟨a, ns, rfl, hS, hn, kq⟩ := h
  refine ⟨_, (pss_cons (ps_if (pt_not (pt_val (pe_calG0 C__law_hand_right (hr.mono (by omega)) hgu))) (pss_one (ps_ret pe_bl)) pss_nil)
    (pss_cons (ps_for PassesOwn.never rfl (pi_range1 (by rfl) Z.range (pa_cons pe_int pa_nil)) (pg_name (i := 1) scLw.nd rfl (Or.inl rfl)) (pss_one (ps_if (pt_not (pt_val (pe_calG C__law_turn_right (hr.mono (by omega)) hgu (pa_cons (pe_cal C__law_begun (hr.mono (by omega)) (pa_cons (pv 0) (pa_cons (pv 1) pa_nil))) pa_nil)))) (pss_one (ps_ret pe_bl)) pss_nil)))
    (pss_one (ps_ret pe_bl)))), ?_⟩
  refine ⟨rfl, fun H1 s1 => ⟨true, rfl, itF rfl ?_⟩⟩
  refine ⟨2, rfl, by decide, by decide, ?_⟩
  refine for_range (n := 2) (fun i σ H2 => ∃ x1, σ = [some (.ref a), x1] ∧ SqL K H2 a (ns.map V.int)) ⟨_, rfl, SqL.same hS s1⟩ (fun i σ H2 hi ⟨x1, hσ, hS2⟩ => ?_) (fun σ H2 _ => kq H2)
  subst hσ
  rw [Int.zero_add]
  refine ⟨_, rfl, _, rfl, a, ns, i, rfl, hS2, hn, by omega, fun r c H3 s3 hm => ⟨r, c, rfl, hm, fun H4 tm4 => ⟨true, rfl, itF rfl ?_⟩⟩⟩
  exact ⟨_, rfl, TM.sql tm4 (SqL.same hS2 s3)⟩
end K16

set_option Elab.async false
set_option linter.all false
set_option maxRecDepth 100000
set_option maxHeartbeats 4000000
/-! The law from the module's defs. -/
namespace K16
open PySem PySem.Spec PyProof.Rows L2
open Classical
def BindOk (x : Str) (st : Stmt) (ps : List Str) : Prop := ∀ (kV doc pm : Value) (an : Option Addr) (cdv ct : Value) (us : List Value), us.length = ps.length → bindArgs (PySem.W.fnOf x x (defArgs st) (defBody st) (defScope st) .none kV doc pm an cdv ct) ⟨us, []⟩ = pure (ps.zip us)
theorem mk_fun {K : PySem.W.Frag} {h : Heap} {mg : Str → Option Value} {x : Str} {st : Stmt} {f : Addr} {oc : Value} {od an : Option Addr} {osl : Array (Option Value)} {kV doc pm cdv ct : Value} (X : K.In h) (G : h.Ns mainGlobals mg) (a : PySem.W.nsIn K mainGlobals x = some (some (.ref f)))
    (l : K.lookup f = some ⟨oc, od, .func (PySem.W.fnOf x x (defArgs st) (defBody st) (defScope st) .none kV doc pm an cdv ct), osl⟩) (c : PySem.W.codeIn K cdv x = true) (k : PySem.W.keepIn K (.ref f) = true) (ps : List Str) (b : BindOk x st ps) : Def K mg x st ps :=
  ⟨f, _, fun_mk l c k, PySem.W.mg_of X G a, (fun_mk l c k).binds b⟩

theorem bd_Gr : BindOk "grown" sGr ["expand", "context", "start", "most"] := fun _ _ _ _ _ _ us hl => match us, hl with | [_, _, _, _], _ => rfl
theorem bd_Nc : BindOk "node_count" sNc ["tree"] := fun _ _ _ _ _ _ us hl => match us, hl with | [_], _ => rfl
theorem bd_En : BindOk "ends_of" sEn ["tree"] := fun _ _ _ _ _ _ us hl => match us, hl with | [_], _ => rfl
theorem bd_Skip : BindOk "skipped" sSkip ["tree", "known"] := fun _ _ _ _ _ _ us hl => match us, hl with | [_, _], _ => rfl
theorem bd_Wa : BindOk "with_answer" sWa ["known", "place", "digit"] := fun _ _ _ _ _ _ us hl => match us, hl with | [_, _, _], _ => rfl
theorem bd_Gn : BindOk "given_node" sGn ["context", "tree"] := fun _ _ _ _ _ _ us hl => match us, hl with | [_, _], _ => rfl
theorem bd_Fx : BindOk "fixed_at" sFx ["tree", "place", "d"] := fun _ _ _ _ _ _ us hl => match us, hl with | [_, _, _], _ => rfl
theorem bd_Nu : BindOk "numbered" sNu ["tree"] := fun _ _ _ _ _ _ us hl => match us, hl with | [_], _ => rfl
theorem bd_Pl : BindOk "places_of" sPl ["tree"] := fun _ _ _ _ _ _ us hl => match us, hl with | [_], _ => rfl
theorem bd_Ho : BindOk "has_one_value" sHo ["tree", "known", "value"] := fun _ _ _ _ _ _ us hl => match us, hl with | [_, _, _], _ => rfl
theorem bd_Sf : BindOk "same_function" sSf ["tree", "other"] := fun _ _ _ _ _ _ us hl => match us, hl with | [_, _], _ => rfl
theorem bd_So : BindOk "sides_of" sSo ["tree", "place"] := fun _ _ _ _ _ _ us hl => match us, hl with | [_, _], _ => rfl
theorem bd_Ls : BindOk "least_sides" sLs ["tree"] := fun _ _ _ _ _ _ us hl => match us, hl with | [_], _ => rfl
theorem bd_Av : BindOk "any_value" sAv ["tree"] := fun _ _ _ _ _ _ us hl => match us, hl with | [_], _ => rfl
theorem bd_Ln : BindOk "least_node" sLn ["context", "tree"] := fun _ _ _ _ _ _ us hl => match us, hl with | [_, _], _ => rfl
theorem bd_Le : BindOk "least" sLe ["menu", "tree"] := fun _ _ _ _ _ _ us hl => match us, hl with | [_, _], _ => rfl
theorem bd_Sh : BindOk "shared" sSh ["menu", "tree"] := fun _ _ _ _ _ _ us hl => match us, hl with | [_, _], _ => rfl
theorem bd_Us : BindOk "unshared" sUs ["nodes"] := fun _ _ _ _ _ _ us hl => match us, hl with | [_], _ => rfl
theorem bd_Be : BindOk "_law_begun" sBe ["_law_script", "_law_k"] := fun _ _ _ _ _ _ us hl => match us, hl with | [_, _], _ => rfl
theorem bd_Dr : BindOk "_law_draw" sDr ["_law_m", "_law_below"] := fun _ _ _ _ _ _ us hl => match us, hl with | [_, _], _ => rfl
theorem bd_Of : BindOk "_law_of" sOf ["_law_m", "_law_some"] := fun _ _ _ _ _ _ us hl => match us, hl with | [_, _], _ => rfl
theorem bd_Me : BindOk "_law_menu_places" sMe ["_law_m", "_law_most"] := fun _ _ _ _ _ _ us hl => match us, hl with | [_, _], _ => rfl
theorem bd_Tr : BindOk "_law_tree" sTr ["_law_m", "_law_sizes", "_law_places", "_law_fuel", "_law_values"] := fun _ _ _ _ _ _ us hl => match us, hl with | [_, _, _, _, _], _ => rfl
theorem bd_Va : BindOk "_law_value" sVa ["_law_tree_here", "_law_filling"] := fun _ _ _ _ _ _ us hl => match us, hl with | [_, _], _ => rfl
theorem bd_Fi : BindOk "_law_fillings" sFi ["_law_sizes", "_law_places", "_law_fixed"] := fun _ _ _ _ _ _ us hl => match us, hl with | [_, _, _], _ => rfl
theorem bd_Lo : BindOk "_law_lowest" sLo ["_law_sizes", "_law_places", "_law_tree_here", "_law_filling"] := fun _ _ _ _ _ _ us hl => match us, hl with | [_, _, _, _], _ => rfl
theorem bd_An : BindOk "_law_anew" sAn ["_law_m", "_law_sizes", "_law_left", "_law_tree_here", "_law_filling"] := fun _ _ _ _ _ _ us hl => match us, hl with | [_, _, _, _, _], _ => rfl
theorem bd_Hs : BindOk "_law_shared" sHs ["_law_tree_here", "_law_nodes"] := fun _ _ _ _ _ _ us hl => match us, hl with | [_, _], _ => rfl
theorem bd_Tl : BindOk "_law_tables_left" sTl ["_law_sizes", "_law_places", "_law_tree_here"] := fun _ _ _ _ _ _ us hl => match us, hl with | [_, _, _], _ => rfl
theorem bd_Ha : BindOk "_law_hangs" sHa ["_law_sizes", "_law_left", "_law_tree_here", "_law_known"] := fun _ _ _ _ _ _ us hl => match us, hl with | [_, _, _, _], _ => rfl
theorem bd_Ed : BindOk "_law_ends" sEd ["_law_tree_here", "_law_known"] := fun _ _ _ _ _ _ us hl => match us, hl with | [_, _], _ => rfl
theorem bd_Pr : BindOk "_law_parts_right" sPr ["_law_sizes", "_law_tree_here", "_law_places"] := fun _ _ _ _ _ _ us hl => match us, hl with | [_, _, _], _ => rfl
theorem bd_Co : BindOk "_law_count" sCo ["_law_tree_here"] := fun _ _ _ _ _ _ us hl => match us, hl with | [_], _ => rfl
theorem bd_Tu : BindOk "_law_turn_right" sTu ["_law_m"] := fun _ _ _ _ _ _ us hl => match us, hl with | [_], _ => rfl
theorem bd_Hr : BindOk "_law_hand_right" sHr [] := fun _ _ _ _ _ _ us hl => match us, hl with | [], _ => rfl
theorem bd_Lw : BindOk "law" sLw ["_law_script"] := fun _ _ _ _ _ _ us hl => match us, hl with | [_], _ => rfl
/-- all defs of the module that are called -/
structure Defs (K : PySem.W.Frag) (mg : Str → Option Value) : Prop where
  dGr : Def K mg "grown" sGr ["expand", "context", "start", "most"]
  dNc : Def K mg "node_count" sNc ["tree"]
  dEn : Def K mg "ends_of" sEn ["tree"]
  dSkip : Def K mg "skipped" sSkip ["tree", "known"]
  dWa : Def K mg "with_answer" sWa ["known", "place", "digit"]
  dGn : Def K mg "given_node" sGn ["context", "tree"]
  dFx : Def K mg "fixed_at" sFx ["tree", "place", "d"]
  dNu : Def K mg "numbered" sNu ["tree"]
  dPl : Def K mg "places_of" sPl ["tree"]
  dHo : Def K mg "has_one_value" sHo ["tree", "known", "value"]
  dSf : Def K mg "same_function" sSf ["tree", "other"]
  dSo : Def K mg "sides_of" sSo ["tree", "place"]
  dLs : Def K mg "least_sides" sLs ["tree"]
  dAv : Def K mg "any_value" sAv ["tree"]
  dLn : Def K mg "least_node" sLn ["context", "tree"]
  dLe : Def K mg "least" sLe ["menu", "tree"]
  dSh : Def K mg "shared" sSh ["menu", "tree"]
  dUs : Def K mg "unshared" sUs ["nodes"]
  dBe : Def K mg "_law_begun" sBe ["_law_script", "_law_k"]
  dDr : Def K mg "_law_draw" sDr ["_law_m", "_law_below"]
  dOf : Def K mg "_law_of" sOf ["_law_m", "_law_some"]
  dMe : Def K mg "_law_menu_places" sMe ["_law_m", "_law_most"]
  dTr : Def K mg "_law_tree" sTr ["_law_m", "_law_sizes", "_law_places", "_law_fuel", "_law_values"]
  dVa : Def K mg "_law_value" sVa ["_law_tree_here", "_law_filling"]
  dFi : Def K mg "_law_fillings" sFi ["_law_sizes", "_law_places", "_law_fixed"]
  dLo : Def K mg "_law_lowest" sLo ["_law_sizes", "_law_places", "_law_tree_here", "_law_filling"]
  dAn : Def K mg "_law_anew" sAn ["_law_m", "_law_sizes", "_law_left", "_law_tree_here", "_law_filling"]
  dHs : Def K mg "_law_shared" sHs ["_law_tree_here", "_law_nodes"]
  dTl : Def K mg "_law_tables_left" sTl ["_law_sizes", "_law_places", "_law_tree_here"]
  dHa : Def K mg "_law_hangs" sHa ["_law_sizes", "_law_left", "_law_tree_here", "_law_known"]
  dEd : Def K mg "_law_ends" sEd ["_law_tree_here", "_law_known"]
  dPr : Def K mg "_law_parts_right" sPr ["_law_sizes", "_law_tree_here", "_law_places"]
  dCo : Def K mg "_law_count" sCo ["_law_tree_here"]
  dTu : Def K mg "_law_turn_right" sTu ["_law_m"]
  dHr : Def K mg "_law_hand_right" sHr []
theorem law_fn {P : Program} {w : World} {K : PySem.W.Frag} {mg : Str → Option Value} {base : Heap} {f : Addr} {fd : FuncData} (F : Fun K "law" "law" sLw f fd) (Z : Bi mg) (hmost : ∃ u, mg "MOST_NODES" = some u ∧ RelV (.int 2000) u) (D : Defs K mg) : FnG P w K mg base 12 f fd ["_law_script"] (spLaw K) := by
  have sk := ok_skip (P := P) (w := w) (base := base) D.dSkip
  have wa := ok_wa (P := P) (w := w) (base := base) D.dWa Z
  have fx := ok_fx (P := P) (w := w) (base := base) D.dFx Z D.dGr D.dGn sk
  have av := ok_av (P := P) (w := w) (base := base) D.dAv
  have nc := ok_nc (P := P) (w := w) (base := base) D.dNc
  have pl := ok_pl (P := P) (w := w) (base := base) D.dPl Z
  have ho := ok_ho (P := P) (w := w) (base := base) D.dHo Z sk wa
  have sf := ok_sf (P := P) (w := w) (base := base) D.dSf Z ho wa
  have so := ok_so (P := P) (w := w) (base := base) D.dSo Z fx
  have ls := ok_ls (P := P) (w := w) (base := base) D.dLs Z pl so sf
  have le := ok_le (P := P) (w := w) (base := base) D.dLe Z D.dGr D.dLn hmost ls av
  have nu := ok_nu (P := P) (w := w) (base := base) D.dNu Z
  have us := ok_us (P := P) (w := w) (base := base) D.dUs Z
  have sh := ok_sh (P := P) (w := w) (base := base) D.dSh nu le
  have en := ok_en (P := P) (w := w) (base := base) D.dEn Z
  have dr := ok_dr (P := P) (w := w) (base := base) D.dDr Z
  have fo := ok_of (P := P) (w := w) (base := base) D.dOf Z dr
  have va := ok_va (P := P) (w := w) (base := base) D.dVa
  have fi := ok_fi (P := P) (w := w) (base := base) D.dFi Z
  have co := ok_co (P := P) (w := w) (base := base) D.dCo Z 6
  have ed := ok_ed (P := P) (w := w) (base := base) D.dEd Z 6
  have lo := ok_lo (P := P) (w := w) (base := base) D.dLo Z va 6
  have tre := ok_tr (P := P) (w := w) (base := base) D.dTr Z dr fo 6
  have an := ok_an (P := P) (w := w) (base := base) D.dAn Z va dr fo 6
  have me := ok_me (P := P) (w := w) (base := base) D.dMe Z dr fo
  have be := ok_be (P := P) (w := w) (base := base) D.dBe Z
  have hs := ok_hs (P := P) (w := w) (base := base) D.dHs Z 6
  have ha := ok_ha (P := P) (w := w) (base := base) D.dHa Z va fi
  have tl := ok_tl (P := P) (w := w) (base := base) D.dTl Z va fi ha
  have pr := ok_pr (P := P) (w := w) (base := base) D.dPr Z en ed va fi
  have tu := ok_tu (P := P) (w := w) (base := base) D.dTu Z ⟨me, dr, tre, an, lo, hs, sh, us, nc, tl, co, pr⟩
  have hr := ok_hr (P := P) (w := w) (base := base) D.dHr Z sh us
  exact ok_lw F Z hr tu be
theorem law_mk {l : PySem.W.OpenLaw} {w : World} {K : PySem.W.Frag} {h : Heap} {mg : Str → Option Value} {fa f : Addr} {oc : Value} {od an : Option Addr} {osl : Array (Option Value)} {kV doc pm cdv ct : Value} (X : K.In h) (G : h.Ns mainGlobals mg) (hfa : mg "law" = some (.ref fa)) (D : Defs K mg) (Z : Bi mg) (hmost : ∃ u, mg "MOST_NODES" = some u ∧ RelV (.int 2000) u)
    (a : PySem.W.nsIn K mainGlobals "law" = some (some (.ref f))) (lk : K.lookup f = some ⟨oc, od, .func (PySem.W.fnOf "law" "law" (defArgs sLw) (defBody sLw) (defScope sLw) .none kV doc pm an cdv ct), osl⟩) (c : PySem.W.codeIn K cdv "law" = true) (k : PySem.W.keepIn K (.ref f) = true) :
    ∃ fd : FuncData, (∀ (s : Shared) (u : Value), BindsTo s fd ⟨[u], []⟩ [("_law_script", u)]) ∧ ∀ base : Heap, K.In base → base.Ns mainGlobals mg → FnG l.prog w K mg base 12 fa fd ["_law_script"] (spLaw K) := by
  have e := hfa.symm.trans (PySem.W.mg_of X G a)
  cases e
  exact ⟨PySem.W.fnOf "law" "law" (defArgs sLw) (defBody sLw) (defScope sLw) .none kV doc pm an cdv ct, fun s v => .of_eq rfl, fun base _ _ => law_fn (fun_mk (st := sLw) lk c k) Z hmost D⟩
theorem most_mk {K : PySem.W.Frag} {h : Heap} {mg : Str → Option Value} {u : Tok} (X : K.In h) (G : h.Ns mainGlobals mg) (a : PySem.W.nsIn K mainGlobals "MOST_NODES" = some (some (.int 2000 u))) : ∃ u, mg "MOST_NODES" = some u ∧ RelV (.int 2000) u := ⟨_, PySem.W.mg_of X G a, ⟨u, rfl⟩⟩
theorem walk {l : PySem.W.OpenLaw} {q : Program} {loose : List Str} {XP : (Str → Option Value) → Heap → Prop} {YP : World → Heap → Prop} {d : DefRec} {K : Params → PySem.W.Frag} (hn : l.most = some 63) (hdf : d.params.defaults = [])
    (hY : ∀ (w : World) (h : Heap), YP w h → (K w.params).In h)
    (F : ∀ (w : World) (mg : Str → Option Value) (fa : Addr) (h : Heap), (K w.params).In h → h.Ns mainGlobals mg → mg d.name = some (.ref fa) →
      ∃ fd : FuncData, (∀ (s : Shared) (u : Value), BindsTo s fd ⟨[u], []⟩ [("_law_script", u)]) ∧ ∀ base : Heap, (K w.params).In base → base.Ns mainGlobals mg → FnG l.prog w (K w.params) mg base 12 fa fd ["_law_script"] (spLaw (K w.params))) :
    PySem.W.WalkO q loose XP YP l.row.toRowW d [] (fun f vs => PySem.call f vs) :=
  walk_ofG (n := 63) (k := 12) (x := "_law_script") (sp := fun w => spLaw (K w.params)) hn (by decide) hdf ⟨rfl, by decide, by decide⟩ hY F fun _ _ a ns hl _ hS => ⟨a, ns, rfl, hS, hl, fun _ => rfl⟩
end K16

set_option Elab.async false
set_option linter.all false
set_option maxRecDepth 100000
set_option maxHeartbeats 0
/-! The head: where each def stands, by names; the end. -/
namespace K16
open PySem PySem.Spec PyProof.Rows L2
open Classical
def fdGr : He.FnD := ⟨("grown", none), "grown", "grown", defArgs sGr, defBody sGr, defScope sGr⟩
def fdNc : He.FnD := ⟨("node_count", none), "node_count", "node_count", defArgs sNc, defBody sNc, defScope sNc⟩
def fdEn : He.FnD := ⟨("ends_of", none), "ends_of", "ends_of", defArgs sEn, defBody sEn, defScope sEn⟩
def fdSkip : He.FnD := ⟨("skipped", none), "skipped", "skipped", defArgs sSkip, defBody sSkip, defScope sSkip⟩
def fdWa : He.FnD := ⟨("with_answer", none), "with_answer", "with_answer", defArgs sWa, defBody sWa, defScope sWa⟩
def fdGn : He.FnD := ⟨("given_node", none), "given_node", "given_node", defArgs sGn, defBody sGn, defScope sGn⟩
def fdFx : He.FnD := ⟨("fixed_at", none), "fixed_at", "fixed_at", defArgs sFx, defBody sFx, defScope sFx⟩
def fdNu : He.FnD := ⟨("numbered", none), "numbered", "numbered", defArgs sNu, defBody sNu, defScope sNu⟩
def fdPl : He.FnD := ⟨("places_of", none), "places_of", "places_of", defArgs sPl, defBody sPl, defScope sPl⟩
def fdHo : He.FnD := ⟨("has_one_value", none), "has_one_value", "has_one_value", defArgs sHo, defBody sHo, defScope sHo⟩
def fdSf : He.FnD := ⟨("same_function", none), "same_function", "same_function", defArgs sSf, defBody sSf, defScope sSf⟩
def fdSo : He.FnD := ⟨("sides_of", none), "sides_of", "sides_of", defArgs sSo, defBody sSo, defScope sSo⟩
def fdLs : He.FnD := ⟨("least_sides", none), "least_sides", "least_sides", defArgs sLs, defBody sLs, defScope sLs⟩
def fdAv : He.FnD := ⟨("any_value", none), "any_value", "any_value", defArgs sAv, defBody sAv, defScope sAv⟩
def fdLn : He.FnD := ⟨("least_node", none), "least_node", "least_node", defArgs sLn, defBody sLn, defScope sLn⟩
def fdLe : He.FnD := ⟨("least", none), "least", "least", defArgs sLe, defBody sLe, defScope sLe⟩
def fdSh : He.FnD := ⟨("shared", none), "shared", "shared", defArgs sSh, defBody sSh, defScope sSh⟩
def fdUs : He.FnD := ⟨("unshared", none), "unshared", "unshared", defArgs sUs, defBody sUs, defScope sUs⟩
def fdBe : He.FnD := ⟨("_law_begun", none), "_law_begun", "_law_begun", defArgs sBe, defBody sBe, defScope sBe⟩
def fdDr : He.FnD := ⟨("_law_draw", none), "_law_draw", "_law_draw", defArgs sDr, defBody sDr, defScope sDr⟩
def fdOf : He.FnD := ⟨("_law_of", none), "_law_of", "_law_of", defArgs sOf, defBody sOf, defScope sOf⟩
def fdMe : He.FnD := ⟨("_law_menu_places", none), "_law_menu_places", "_law_menu_places", defArgs sMe, defBody sMe, defScope sMe⟩
def fdTr : He.FnD := ⟨("_law_tree", none), "_law_tree", "_law_tree", defArgs sTr, defBody sTr, defScope sTr⟩
def fdVa : He.FnD := ⟨("_law_value", none), "_law_value", "_law_value", defArgs sVa, defBody sVa, defScope sVa⟩
def fdFi : He.FnD := ⟨("_law_fillings", none), "_law_fillings", "_law_fillings", defArgs sFi, defBody sFi, defScope sFi⟩
def fdLo : He.FnD := ⟨("_law_lowest", none), "_law_lowest", "_law_lowest", defArgs sLo, defBody sLo, defScope sLo⟩
def fdAn : He.FnD := ⟨("_law_anew", none), "_law_anew", "_law_anew", defArgs sAn, defBody sAn, defScope sAn⟩
def fdHs : He.FnD := ⟨("_law_shared", none), "_law_shared", "_law_shared", defArgs sHs, defBody sHs, defScope sHs⟩
def fdTl : He.FnD := ⟨("_law_tables_left", none), "_law_tables_left", "_law_tables_left", defArgs sTl, defBody sTl, defScope sTl⟩
def fdHa : He.FnD := ⟨("_law_hangs", none), "_law_hangs", "_law_hangs", defArgs sHa, defBody sHa, defScope sHa⟩
def fdEd : He.FnD := ⟨("_law_ends", none), "_law_ends", "_law_ends", defArgs sEd, defBody sEd, defScope sEd⟩
def fdPr : He.FnD := ⟨("_law_parts_right", none), "_law_parts_right", "_law_parts_right", defArgs sPr, defBody sPr, defScope sPr⟩
def fdCo : He.FnD := ⟨("_law_count", none), "_law_count", "_law_count", defArgs sCo, defBody sCo, defScope sCo⟩
def fdTu : He.FnD := ⟨("_law_turn_right", none), "_law_turn_right", "_law_turn_right", defArgs sTu, defBody sTu, defScope sTu⟩
def fdHr : He.FnD := ⟨("_law_hand_right", none), "_law_hand_right", "_law_hand_right", defArgs sHr, defBody sHr, defScope sHr⟩
def fdLw : He.FnD := ⟨("law", none), "law", "law", defArgs sLw, defBody sLw, defScope sLw⟩
def fnAll : List He.FnD := [fdGr, fdNc, fdEn, fdSkip, fdWa, fdGn, fdFx, fdNu, fdPl, fdHo, fdSf, fdSo, fdLs, fdAv, fdLn, fdLe, fdSh, fdUs, fdBe, fdDr, fdOf, fdMe, fdTr, fdVa, fdFi, fdLo, fdAn, fdHs, fdTl, fdHa, fdEd, fdPr, fdCo, fdTu, fdHr, fdLw]
def faG : List He.Fa := [.glo "grown", .glo "node_count", .glo "ends_of", .glo "skipped", .glo "with_answer", .glo "given_node", .glo "fixed_at", .glo "numbered", .glo "places_of", .glo "has_one_value", .glo "same_function", .glo "sides_of", .glo "least_sides", .glo "any_value", .glo "least_node", .glo "least", .glo "shared", .glo "unshared", .glo "_law_begun", .glo "_law_draw", .glo "_law_of", .glo "_law_menu_places", .glo "_law_tree", .glo "_law_value", .glo "_law_fillings", .glo "_law_lowest", .glo "_law_anew", .glo "_law_shared", .glo "_law_tables_left", .glo "_law_hangs", .glo "_law_ends", .glo "_law_parts_right", .glo "_law_count", .glo "_law_turn_right", .glo "_law_hand_right", .glo "law"]
def faK : List He.Fa := [.keep "grown", .keep "node_count", .keep "ends_of", .keep "skipped", .keep "with_answer", .keep "given_node", .keep "fixed_at", .keep "numbered", .keep "places_of", .keep "has_one_value", .keep "same_function", .keep "sides_of", .keep "least_sides", .keep "any_value", .keep "least_node", .keep "least", .keep "shared", .keep "unshared", .keep "_law_begun", .keep "_law_draw", .keep "_law_of", .keep "_law_menu_places", .keep "_law_tree", .keep "_law_value", .keep "_law_fillings", .keep "_law_lowest", .keep "_law_anew", .keep "_law_shared", .keep "_law_tables_left", .keep "_law_hangs", .keep "_law_ends", .keep "_law_parts_right", .keep "_law_count", .keep "_law_turn_right", .keep "_law_hand_right", .keep "law"]
def faF : List He.Fa := [.free "len", .free "tuple", .free "list", .free "range", .free "sorted", .free "sum", .free "all", .free "int", .free "repr", .free "dict", .free "enumerate", .int "MOST_NODES" 2000]
def faAll : List He.Fa := faF ++ (faG ++ faK)
theorem fun_at {K : PySem.W.Frag} {x : Str} {st : Stmt} (c : He.SaysE faAll fnAll K) (i : Nat) (h : fnAll[i]? = some ⟨(x, none), x, x, defArgs st, defBody st, defScope st⟩) (k : (He.Fa.keep x).ok K = true) : ∃ fd, Fun K x x st (He.ga K x) fd := by
  obtain ⟨oc, od, osl, kV, doc, pm, an, cdv, ct, h1, h2⟩ := c.def_ i h
  exact ⟨_, fun_mk (st := st) h1 h2 (He.keep_ok k)⟩
theorem def_at {K : PySem.W.Frag} {h : Heap} {mg : Str → Option Value} {x : Str} {st : Stmt} {ps : List Str} (X : K.In h) (G : h.Ns mainGlobals mg) (c : He.SaysE faAll fnAll K) (i : Nat) (hd : fnAll[i]? = some ⟨(x, none), x, x, defArgs st, defBody st, defScope st⟩) (g : (He.Fa.glo x).ok K = true) (k : (He.Fa.keep x).ok K = true) (b : BindOk x st ps) : Def K mg x st ps := by
  obtain ⟨fd, F⟩ := fun_at c i hd k
  exact ⟨_, fd, F, He.glo_ok X G g, F.binds b⟩
theorem defs_at {K : PySem.W.Frag} {h : Heap} {mg : Str → Option Value} (X : K.In h) (G : h.Ns mainGlobals mg) (c : He.SaysE faAll fnAll K) : Defs K mg :=
  ⟨def_at X G c 0 rfl (c.fact 12 rfl) (c.fact 48 rfl) bd_Gr,
    def_at X G c 1 rfl (c.fact 13 rfl) (c.fact 49 rfl) bd_Nc,
    def_at X G c 2 rfl (c.fact 14 rfl) (c.fact 50 rfl) bd_En,
    def_at X G c 3 rfl (c.fact 15 rfl) (c.fact 51 rfl) bd_Skip,
    def_at X G c 4 rfl (c.fact 16 rfl) (c.fact 52 rfl) bd_Wa,
    def_at X G c 5 rfl (c.fact 17 rfl) (c.fact 53 rfl) bd_Gn,
    def_at X G c 6 rfl (c.fact 18 rfl) (c.fact 54 rfl) bd_Fx,
    def_at X G c 7 rfl (c.fact 19 rfl) (c.fact 55 rfl) bd_Nu,
    def_at X G c 8 rfl (c.fact 20 rfl) (c.fact 56 rfl) bd_Pl,
    def_at X G c 9 rfl (c.fact 21 rfl) (c.fact 57 rfl) bd_Ho,
    def_at X G c 10 rfl (c.fact 22 rfl) (c.fact 58 rfl) bd_Sf,
    def_at X G c 11 rfl (c.fact 23 rfl) (c.fact 59 rfl) bd_So,
    def_at X G c 12 rfl (c.fact 24 rfl) (c.fact 60 rfl) bd_Ls,
    def_at X G c 13 rfl (c.fact 25 rfl) (c.fact 61 rfl) bd_Av,
    def_at X G c 14 rfl (c.fact 26 rfl) (c.fact 62 rfl) bd_Ln,
    def_at X G c 15 rfl (c.fact 27 rfl) (c.fact 63 rfl) bd_Le,
    def_at X G c 16 rfl (c.fact 28 rfl) (c.fact 64 rfl) bd_Sh,
    def_at X G c 17 rfl (c.fact 29 rfl) (c.fact 65 rfl) bd_Us,
    def_at X G c 18 rfl (c.fact 30 rfl) (c.fact 66 rfl) bd_Be,
    def_at X G c 19 rfl (c.fact 31 rfl) (c.fact 67 rfl) bd_Dr,
    def_at X G c 20 rfl (c.fact 32 rfl) (c.fact 68 rfl) bd_Of,
    def_at X G c 21 rfl (c.fact 33 rfl) (c.fact 69 rfl) bd_Me,
    def_at X G c 22 rfl (c.fact 34 rfl) (c.fact 70 rfl) bd_Tr,
    def_at X G c 23 rfl (c.fact 35 rfl) (c.fact 71 rfl) bd_Va,
    def_at X G c 24 rfl (c.fact 36 rfl) (c.fact 72 rfl) bd_Fi,
    def_at X G c 25 rfl (c.fact 37 rfl) (c.fact 73 rfl) bd_Lo,
    def_at X G c 26 rfl (c.fact 38 rfl) (c.fact 74 rfl) bd_An,
    def_at X G c 27 rfl (c.fact 39 rfl) (c.fact 75 rfl) bd_Hs,
    def_at X G c 28 rfl (c.fact 40 rfl) (c.fact 76 rfl) bd_Tl,
    def_at X G c 29 rfl (c.fact 41 rfl) (c.fact 77 rfl) bd_Ha,
    def_at X G c 30 rfl (c.fact 42 rfl) (c.fact 78 rfl) bd_Ed,
    def_at X G c 31 rfl (c.fact 43 rfl) (c.fact 79 rfl) bd_Pr,
    def_at X G c 32 rfl (c.fact 44 rfl) (c.fact 80 rfl) bd_Co,
    def_at X G c 33 rfl (c.fact 45 rfl) (c.fact 81 rfl) bd_Tu,
    def_at X G c 34 rfl (c.fact 46 rfl) (c.fact 82 rfl) bd_Hr⟩
theorem bi_at {K : PySem.W.Frag} {h : Heap} {mg : Str → Option Value} (X : K.In h) (G : h.Ns mainGlobals mg) (c : He.SaysE faAll fnAll K) : Bi mg :=
  ⟨He.free_ok X G (c.fact 0 rfl), He.free_ok X G (c.fact 1 rfl), He.free_ok X G (c.fact 2 rfl), He.free_ok X G (c.fact 3 rfl), He.free_ok X G (c.fact 4 rfl), He.free_ok X G (c.fact 5 rfl), He.free_ok X G (c.fact 6 rfl), He.free_ok X G (c.fact 7 rfl), He.free_ok X G (c.fact 8 rfl), He.free_ok X G (c.fact 9 rfl), He.free_ok X G (c.fact 10 rfl)⟩
theorem law_facts {P : Program} {w : World} {K : PySem.W.Frag} {h : Heap} {mg : Str → Option Value} {f : Addr} (X : K.In h) (G : h.Ns mainGlobals mg) (hfa : mg ("law" : Str) = some (.ref f)) (c : He.SaysE faAll fnAll K) :
    ∃ fd : FuncData, (∀ (s : Shared) (v : Value), BindsTo s fd ⟨[v], []⟩ [("_law_script", v)]) ∧ ∀ base : Heap, K.In base → base.Ns mainGlobals mg → FnG P w K mg base 12 f fd ["_law_script"] (spLaw K) := by
  have e := hfa.symm.trans (He.glo_ok X G (c.fact 47 (f := .glo "law") rfl))
  cases e
  obtain ⟨oc, od, osl, kV, doc, pm, an, cdv, ct, h1, h2⟩ := c.def_ 35 (d := fdLw) rfl
  have hmost : ∃ u, mg "MOST_NODES" = some u ∧ RelV (.int 2000) u := by
    obtain ⟨t, ht⟩ := He.int_ok X G (c.fact 11 (f := .int "MOST_NODES" 2000) rfl)
    exact ⟨_, ht, t, rfl⟩
  exact ⟨_, fun s v => .of_eq rfl, fun base _ _ => law_fn (fun_mk (st := sLw) h1 h2 (He.keep_ok (c.fact 83 (f := .keep "law") rfl))) (bi_at X G c) hmost (defs_at X G c)⟩
theorem walk_facts {l : PySem.W.OpenLaw} {n k : Nat} {q : Program} {loose : List Str} {XP : (Str → Option Value) → Heap → Prop} {YP : World → Heap → Prop} {d : DefRec} {x : Str}
    (hn : l.most = some n) (hn2 : n ≤ sizeLine) (hdf : d.params.defaults = []) (hr : Room k callerA)
    (F : ∀ (w : World) (mg : Str → Option Value) (fa : Addr) (h : Heap), YP w h → h.Ns mainGlobals mg → mg d.name = some (.ref fa) →
      ∃ (K : PySem.W.Frag) (fd : FuncData) (sp : Sp), K.In h ∧ (∀ (s : Shared) (u : Value), BindsTo s fd ⟨[u], []⟩ [(x, u)]) ∧
        (∀ (H : Hp) (a : Addr) (ns : List Int), ns.length ≤ n → Only H → SqL K H a (ns.map V.int) → sp [.ref a] H (fun v _ => v = .bl true) fun _ _ _ => False) ∧
        ∀ base : Heap, K.In base → base.Ns mainGlobals mg → FnG l.prog w K mg base k fa fd [x] sp) :
    PySem.W.WalkO q loose XP YP l.row.toRowW d [] (fun f vs => PySem.call f vs) := by
  apply Att.attach_call hn hdf
  intro w s0 s1 mg mb fa o pm cd doc a vs ns G Y ho hd hcd hmg hobj hints hlen hg
  obtain ⟨K, fd, sp, KX, hb, hsp, hF⟩ := F w mg fa _ Y G.T.g hmg
  exact law_callG KX G.T.g G.T.b G.T.builtins G.T.nolimit hg hobj hints (Nat.le_trans hlen hn2) hr hF hb fun H hO hS => hsp H a ns hlen hO hS
abbrev RowK : PySem.W.OpenRow := PySem.W.OpenLaw.row PySem.Challenge.rw_allendless_k16_whole_shared_forms
abbrev hookK : PySem.W.Hook := He.hookE 4 faAll fnAll
def obK (s : PySem.W.SharedT) : He.Al := He.obsG 4 faAll fnAll (HandSHeadRun.getT s)
theorem obK_eq (s : PySem.W.SharedT) : obK s = hookK.obs s.abs := He.obsG_eq (HandSHeadRun.getT_eq s)
def namesA : List Str := ["__name__", "AllendlessError", "TooGreat", "MOST_NODES", "grown", "node_count", "ends_of", "skipped", "with_answer", "given_node", "fixed_at", "numbered", "places_of", "has_one_value", "same_function", "sides_of", "least_sides", "any_value", "least_node", "least"]
def namesB : List Str := ["shared", "unshared", "_law_begun", "_law_draw", "_law_of", "_law_menu_places", "_law_tree", "_law_value", "_law_in", "_law_fillings", "_law_lowest", "_law_anew", "_law_shared", "_law_tables_left", "_law_hangs", "_law_ends", "_law_parts_right", "_law_count", "_law_turn_right", "_law_hand_right"]
abbrev namesK : List Str := namesA ++ namesB
theorem runK (w : World) : HandSHeadRun.RunEq RowK (PySem.W.view RowK.prog [44]) hookK obK 6000 namesK w := by
  intro os
  kernel_rfl
end K16
open PySem PySem.W PySem.Calls PyProof.Rows
theorem PySem.Challenge.cw_allendless_k16_whole_shared_forms_holds : PySem.Challenge.rw_allendless_k16_whole_shared_forms.Holds := by
  w_on; o_law
  refine HandSHeadRun.head_any (r := K16.RowK) (q := view K16.RowK.prog [44]) (H := K16.hookK) (ob := K16.obK) (M := 6000) (loose := K16.namesK) (d := HandSHeadRun.topDef K16.RowK.prog 44) (kwd := []) K16.obK_eq
    (by kernel_rfl) (fun s => by kernel_rfl) K16.runK (by kernel_rfl) (by kernel_rfl) (by kernel_rfl) (by rfl) (by first | assumption | decide +kernel) (by decide +kernel) ⟨rfl, rfl, rfl, rfl, rfl, by decide +kernel⟩ ?hw ?hc
  case hw => w_witness2
  case hc =>
    refine K16.walk_facts (l := PySem.Challenge.rw_allendless_k16_whole_shared_forms) (n := 63) (k := 12) (x := "_law_script") rfl (by decide) (by kernel_rfl) ⟨rfl, by decide, by decide⟩ ?F
    intro w mg fa h Y G hmg0
    obtain ⟨K, KX, c⟩ := Y
    have hmg : mg ("law" : PySem.Str) = some (.ref fa) := by
      have e : (HandSHeadRun.topDef K16.RowK.prog 44).name = ("law" : PySem.Str) := by kernel_rfl
      rw [← e]
      exact hmg0
    obtain ⟨fd, hb, hF⟩ := K16.law_facts (P := PySem.Challenge.rw_allendless_k16_whole_shared_forms.prog) (w := w) KX G hmg c
    exact ⟨K, fd, K16.spLaw K, KX, hb, fun H a ns hl _ hS => ⟨a, ns, rfl, hS, hl, fun _ => rfl⟩, hF⟩

