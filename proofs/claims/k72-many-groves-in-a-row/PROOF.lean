import PyProof.Rows.All
import Wide.All
import OpenK.AllK
import Wide.FinOn
import KE.KStateDown
import KE.KSuper
import HandS.ForMost
import HandS.IsInst
import HandS.Star
import HandS.Defaults
import HandS.DictComp
import HandS.Conv
import HandS.Deep
import HandS.Style
import HandS.Walk
import HandS.ClsMeth
import HandS.Property
import HandS.OwnEq
import HandS.DeepEq
import PyProof.InstEq
import PyProof.AttrMiss
import PySem.Challenge.RW_towgrove_k72_whole_many_groves_in_a_row
import KE.GoesEnum
import PyProof.EnumMake
import HandS.Text
import HandS.Head0
import HandS.Head1
import HandS.Head2
import HandS.HeadEnd
import HandS.HeadHook1
set_option Elab.async false
set_option linter.all false
set_option maxRecDepth 100000
set_option maxHeartbeats 0
/-! The mathematics of trees and groves, over any type of places: no Python here. -/
namespace TwM
variable {α : Type} [DecidableEq α]
/-- what a distance on the places of a tree keeps -/
structure TM (ps : List α) (d : α → α → Nat) : Prop where
  self : ∀ x ∈ ps, d x x = 0
  zero : ∀ x ∈ ps, ∀ y ∈ ps, d x y = 0 → x = y
  symm : ∀ x ∈ ps, ∀ y ∈ ps, d x y = d y x
  tri : ∀ x ∈ ps, ∀ y ∈ ps, ∀ z ∈ ps, d x z ≤ d x y + d y z
  four : ∀ x ∈ ps, ∀ y ∈ ps, ∀ z ∈ ps, ∀ w ∈ ps, d x y + d z w ≤ d x z + d y w ∨ d x y + d z w ≤ d x w + d y z
  med : ∀ x ∈ ps, ∀ y ∈ ps, ∀ z ∈ ps, ∃ m ∈ ps, d x m + d m y = d x y ∧ d y m + d m z = d y z ∧ d x m + d m z = d x z
def EdgeOf (es : List (α × α)) (u v : α) : Prop := (u, v) ∈ es ∨ (v, u) ∈ es
instance (es : List (α × α)) (u v : α) : Decidable (EdgeOf es u v) := by unfold EdgeOf; infer_instance
theorem EdgeOf.symm {es : List (α × α)} {u v : α} (h : EdgeOf es u v) : EdgeOf es v u := Or.symm h
structure AdjD (ps : List α) (es : List (α × α)) (d : α → α → Nat) : Prop where
  step : ∀ s ∈ ps, ∀ u v, EdgeOf es u v → d s u = d s v + 1 ∨ d s v = d s u + 1
  par : ∀ s ∈ ps, ∀ v ∈ ps, v ≠ s → ∃ u, EdgeOf es v u ∧ d s v = d s u + 1
  uni : ∀ s ∈ ps, ∀ v u u', EdgeOf es v u → EdgeOf es v u' → d s v = d s u + 1 → d s v = d s u' + 1 → u = u'
structure GT (ps : List α) (es : List (α × α)) (d : α → α → Nat) : Prop where
  nd : ps.Nodup
  nde : es.Nodup
  ends : ∀ e ∈ es, e.1 ∈ ps ∧ e.2 ∈ ps
  cut : ∀ e ∈ es, ∃ c : α → Bool, c e.1 ≠ c e.2 ∧ ∀ e' ∈ es, e' ≠ e → c e'.1 = c e'.2
  conn : ∀ P : α → Prop, (∀ e ∈ es, P e.1 ↔ P e.2) → ∀ x ∈ ps, ∀ y ∈ ps, P x → P y
  tm : TM ps d
  adj : AdjD ps es d
theorem GT.edge_mem {ps : List α} {es : List (α × α)} {d : α → α → Nat} (g : GT ps es d) {u v : α} (h : EdgeOf es u v) : u ∈ ps ∧ v ∈ ps := by
  rcases h with h | h
  · exact g.ends _ h
  · exact (g.ends _ h).symm
theorem GT.perm {ps ps' : List α} {es es' : List (α × α)} {d : α → α → Nat} (g : GT ps es d) (hp : ps.Perm ps') (he : es.Perm es') : GT ps' es' d := by
  have mp : ∀ x, x ∈ ps' ↔ x ∈ ps := fun x => hp.mem_iff.symm
  have me : ∀ e, e ∈ es' ↔ e ∈ es := fun e => he.mem_iff.symm
  have mE : ∀ u v, EdgeOf es' u v ↔ EdgeOf es u v := fun u v => by unfold EdgeOf; rw [me, me]
  refine ⟨hp.nodup g.nd, he.nodup g.nde, fun e h => ?_, fun e h => ?_, fun P hP x hx y hy => ?_, ?_, ?_⟩
  · rw [mp, mp]; exact g.ends e ((me e).mp h)
  · obtain ⟨c, h1, h2⟩ := g.cut e ((me e).mp h)
    exact ⟨c, h1, fun e' h' => h2 e' ((me e').mp h')⟩
  · exact g.conn P (fun e h => hP e ((me e).mpr h)) x ((mp x).mp hx) y ((mp y).mp hy)
  · have t := g.tm
    refine ⟨fun x hx => t.self x ((mp x).mp hx), fun x hx y hy => t.zero x ((mp x).mp hx) y ((mp y).mp hy), fun x hx y hy => t.symm x ((mp x).mp hx) y ((mp y).mp hy),
      fun x hx y hy z hz => t.tri x ((mp x).mp hx) y ((mp y).mp hy) z ((mp z).mp hz), fun x hx y hy z hz w hw => t.four x ((mp x).mp hx) y ((mp y).mp hy) z ((mp z).mp hz) w ((mp w).mp hw), fun x hx y hy z hz => ?_⟩
    obtain ⟨m, hm, h⟩ := t.med x ((mp x).mp hx) y ((mp y).mp hy) z ((mp z).mp hz)
    exact ⟨m, (mp m).mpr hm, h⟩
  · have a := g.adj
    refine ⟨fun s hs u v h => a.step s ((mp s).mp hs) u v ((mE u v).mp h), fun s hs v hv hn => ?_, fun s hs v u u' h h' => a.uni s ((mp s).mp hs) v u u' ((mE v u).mp h) ((mE v u').mp h')⟩
    obtain ⟨u, h1, h2⟩ := a.par s ((mp s).mp hs) v ((mp v).mp hv) hn
    exact ⟨u, (mE v u).mpr h1, h2⟩
/-! ### the smallest tree, and one more leaf -/
theorem GT.one (p : α) : GT [p] [] (fun _ _ => 0) := by
  refine ⟨(by simp), List.nodup_nil, fun e h => absurd h (by simp), fun e h => absurd h (by simp), fun P _ x hx y hy h => ?_, ?_, ?_⟩
  · rw [List.mem_singleton] at hx hy
    rw [hy, ← hx]; exact h
  · refine ⟨fun _ _ => rfl, fun x hx y hy _ => ?_, fun _ _ _ _ => rfl, fun _ _ _ _ _ _ => Nat.le_refl _, fun _ _ _ _ _ _ _ _ => .inl (Nat.le_refl _), fun x hx y hy z hz => ⟨x, hx, rfl, rfl, rfl⟩⟩
    rw [List.mem_singleton] at hx hy
    rw [hy, ← hx]
  · refine ⟨fun s _ u v h => ?_, fun s hs v hv hn => ?_, fun s _ v u u' h _ => ?_⟩
    · rcases h with h | h <;> exact absurd h (by simp)
    · rw [List.mem_singleton] at hs hv
      exact absurd (hv.trans hs.symm) hn
    · rcases h with h | h <;> exact absurd h (by simp)
def dLeaf (d : α → α → Nat) (k a : α) (x y : α) : Nat := if x = k then (if y = k then 0 else d a y + 1) else if y = k then d x a + 1 else d x y
section
variable {ps : List α} {d : α → α → Nat} {k a : α}
theorem dLeaf_kk : dLeaf d k a k k = 0 := by simp [dLeaf]
theorem dLeaf_k {y : α} (h : y ≠ k) : dLeaf d k a k y = d a y + 1 := by simp [dLeaf, h]
theorem dLeaf_k' {x : α} (h : x ≠ k) : dLeaf d k a x k = d x a + 1 := by simp [dLeaf, h]
theorem dLeaf_o {x y : α} (h : x ≠ k) (h' : y ≠ k) : dLeaf d k a x y = d x y := by simp [dLeaf, h, h']
theorem TM.leaf (t : TM ps d) (hk : k ∉ ps) (ha : a ∈ ps) : TM (ps ++ [k]) (dLeaf d k a) := by
  have ne : ∀ x ∈ ps, x ≠ k := fun x hx e => hk (e ▸ hx)
  have mem : ∀ x ∈ ps ++ [k], x ∈ ps ∨ k = x := fun x hx => by
    rcases List.mem_append.mp hx with h | h
    · exact .inl h
    · exact .inr (List.mem_singleton.mp h).symm
  refine ⟨fun x hx => ?_, fun x hx y hy => ?_, fun x hx y hy => ?_, fun x hx y hy z hz => ?_, fun x hx y hy z hz w hw => ?_, fun x hx y hy z hz => ?_⟩
  · rcases mem x hx with hx | rfl
    · rw [dLeaf_o (ne x hx) (ne x hx)]; exact t.self x hx
    · exact dLeaf_kk
  · rcases mem x hx with hx | rfl <;> rcases mem y hy with hy | rfl
    · rw [dLeaf_o (ne x hx) (ne y hy)]; exact t.zero x hx y hy
    · rw [dLeaf_k' (ne x hx)]; intro h; omega
    · rw [dLeaf_k (ne y hy)]; intro h; omega
    · intro _; rfl
  · rcases mem x hx with hx | rfl <;> rcases mem y hy with hy | rfl
    · rw [dLeaf_o (ne x hx) (ne y hy), dLeaf_o (ne y hy) (ne x hx)]; exact t.symm x hx y hy
    · rw [dLeaf_k' (ne x hx), dLeaf_k (ne x hx), t.symm x hx a ha]
    · rw [dLeaf_k' (ne y hy), dLeaf_k (ne y hy), t.symm y hy a ha]
    · rfl
  · have sa := t.self a ha
    rcases mem x hx with hx | rfl <;> rcases mem y hy with hy | rfl <;> rcases mem z hz with hz | rfl
    · rw [dLeaf_o (ne x hx) (ne y hy), dLeaf_o (ne y hy) (ne z hz), dLeaf_o (ne x hx) (ne z hz)]; exact t.tri x hx y hy z hz
    · rw [dLeaf_o (ne x hx) (ne y hy), dLeaf_k' (ne y hy), dLeaf_k' (ne x hx)]; have := t.tri x hx y hy a ha; omega
    · rw [dLeaf_k' (ne x hx), dLeaf_k (ne z hz), dLeaf_o (ne x hx) (ne z hz)]; have := t.tri x hx a ha z hz; omega
    · rw [dLeaf_kk]; omega
    · rw [dLeaf_k (ne y hy), dLeaf_o (ne y hy) (ne z hz), dLeaf_k (ne z hz)]; have := t.tri a ha y hy z hz; omega
    · rw [dLeaf_kk]; omega
    · rw [dLeaf_kk]; omega
    · rw [dLeaf_kk]; omega
  · have sa := t.self a ha
    rcases mem x hx with hx | rfl <;> rcases mem y hy with hy | rfl <;> rcases mem z hz with hz | rfl <;> rcases mem w hw with hw | rfl
    all_goals simp only [dLeaf, ne, hx, hy, hz, hw, if_true, if_false, reduceIte]
    · exact t.four x hx y hy z hz w hw
    · have := t.four x hx y hy z hz a ha; omega
    · have := t.four x hx y hy a ha w hw; omega
    · have := t.tri x hx a ha y hy; have := t.symm a ha y hy; have := t.tri y hy a ha x hx; have := t.symm x hx y hy; have := t.symm x hx a ha; omega
    · have := t.four x hx a ha z hz w hw; omega
    · have := t.symm x hx a ha; have := t.symm z hz a ha; omega
    · have := t.symm x hx a ha; have := t.symm w hw a ha; omega
    · have := t.symm x hx a ha; omega
    · have := t.four a ha y hy z hz w hw; omega
    · have := t.symm y hy a ha; have := t.symm z hz a ha; omega
    · have := t.symm y hy a ha; have := t.symm w hw a ha; omega
    · have := t.symm y hy a ha; omega
    · have := t.tri z hz a ha w hw; have := t.symm z hz a ha; have := t.symm w hw a ha; omega
    · have := t.symm z hz a ha; omega
    · have := t.symm w hw a ha; omega
    · omega
  · have inl : ∀ m ∈ ps, m ∈ ps ++ [k] := fun m hm => List.mem_append_left _ hm
    have kin : k ∈ ps ++ [k] := List.mem_append_right _ (List.mem_singleton.mpr rfl)
    rcases mem x hx with hx | rfl <;> rcases mem y hy with hy | rfl <;> rcases mem z hz with hz | rfl
    · obtain ⟨m, hm, h1, h2, h3⟩ := t.med x hx y hy z hz
      refine ⟨m, inl m hm, ?_⟩
      simp only [dLeaf, ne, hx, hy, hz, hm, if_true, if_false, reduceIte]; exact ⟨h1, h2, h3⟩
    · obtain ⟨m, hm, h1, h2, h3⟩ := t.med x hx y hy a ha
      refine ⟨m, inl m hm, ?_⟩
      simp only [dLeaf, ne, hx, hy, hz, hm, if_true, if_false, reduceIte]; omega
    · obtain ⟨m, hm, h1, h2, h3⟩ := t.med x hx a ha z hz
      refine ⟨m, inl m hm, ?_⟩
      simp only [dLeaf, ne, hx, hy, hz, hm, if_true, if_false, reduceIte]; omega
    · refine ⟨k, kin, ?_⟩
      rw [dLeaf_kk]; omega
    · obtain ⟨m, hm, h1, h2, h3⟩ := t.med a ha y hy z hz
      refine ⟨m, inl m hm, ?_⟩
      simp only [dLeaf, ne, hx, hy, hz, hm, if_true, if_false, reduceIte]; omega
    · refine ⟨k, kin, ?_⟩
      rw [dLeaf_kk]; omega
    · refine ⟨k, kin, ?_⟩
      rw [dLeaf_kk]; omega
    · refine ⟨k, kin, ?_⟩
      rw [dLeaf_kk]; omega
end
theorem GT.leaf {ps : List α} {es : List (α × α)} {d : α → α → Nat} {k a : α} (g : GT ps es d) (hk : k ∉ ps) (ha : a ∈ ps) {e : α × α} (he : e = (k, a) ∨ e = (a, k)) : GT (ps ++ [k]) (es ++ [e]) (dLeaf d k a) := by
  have ne : ∀ x ∈ ps, x ≠ k := fun x hx e => hk (e ▸ hx)
  have nek : a ≠ k := ne a ha
  have hin : ∀ e' ∈ es, e'.1 ≠ k ∧ e'.2 ≠ k := fun e' h => ⟨ne _ (g.ends e' h).1, ne _ (g.ends e' h).2⟩
  have hee : ∀ e' ∈ es, e' ≠ e := fun e' h q => by
    subst q
    rcases he with rfl | rfl
    · exact (hin _ h).1 rfl
    · exact (hin _ h).2 rfl
  have memE : ∀ e' ∈ es ++ [e], e' ∈ es ∨ e' = e := fun e' h => by
    rcases List.mem_append.mp h with h | h
    · exact .inl h
    · exact .inr (List.mem_singleton.mp h)
  have mem : ∀ x ∈ ps ++ [k], x ∈ ps ∨ k = x := fun x hx => by
    rcases List.mem_append.mp hx with h | h
    · exact .inl h
    · exact .inr (List.mem_singleton.mp h).symm
  have kin : k ∈ ps ++ [k] := List.mem_append_right _ (List.mem_singleton.mpr rfl)
  have ain : a ∈ ps ++ [k] := List.mem_append_left _ ha
  have edge : ∀ u v, EdgeOf (es ++ [e]) u v → EdgeOf es u v ∨ (k = u ∧ a = v) ∨ (a = u ∧ k = v) := fun u v h => by
    rcases h with h | h
    · rcases memE _ h with h | h
      · exact .inl (.inl h)
      · rcases he with rfl | rfl
        · cases h; exact .inr (.inl ⟨rfl, rfl⟩)
        · cases h; exact .inr (.inr ⟨rfl, rfl⟩)
    · rcases memE _ h with h | h
      · exact .inl (.inr h)
      · rcases he with rfl | rfl
        · cases h; exact .inr (.inr ⟨rfl, rfl⟩)
        · cases h; exact .inr (.inl ⟨rfl, rfl⟩)
  have edge0 : ∀ u v, EdgeOf es u v → EdgeOf (es ++ [e]) u v := fun u v h => h.imp (List.mem_append_left _) (List.mem_append_left _)
  have edgek : EdgeOf (es ++ [e]) k a := by
    rcases he with rfl | rfl
    · exact .inl (List.mem_append_right _ (List.mem_singleton.mpr rfl))
    · exact .inr (List.mem_append_right _ (List.mem_singleton.mpr rfl))
  refine ⟨?_, ?_, fun e' h => ?_, fun e' h => ?_, fun P hP x hx y hy => ?_, g.tm.leaf hk ha, ?_⟩
  · refine List.nodup_append.mpr ⟨g.nd, (by simp), fun x hx y hy => ?_⟩
    rw [List.mem_singleton] at hy
    rw [hy]; exact ne x hx
  · refine List.nodup_append.mpr ⟨g.nde, (by simp), fun x hx y hy => ?_⟩
    rw [List.mem_singleton] at hy
    rw [hy]; exact hee x hx
  · rcases memE _ h with h | h
    · exact ⟨List.mem_append_left _ (g.ends e' h).1, List.mem_append_left _ (g.ends e' h).2⟩
    · rw [h]
      rcases he with rfl | rfl
      · exact ⟨kin, ain⟩
      · exact ⟨ain, kin⟩
  · rcases memE _ h with h | h
    · obtain ⟨c, h1, h2⟩ := g.cut e' h
      refine ⟨fun x => if x = k then c a else c x, ?_, fun f hf hn => ?_⟩
      · show (if e'.1 = k then c a else c e'.1) ≠ (if e'.2 = k then c a else c e'.2)
        rw [if_neg (hin e' h).1, if_neg (hin e' h).2]; exact h1
      · show (if f.1 = k then c a else c f.1) = (if f.2 = k then c a else c f.2)
        rcases memE _ hf with hf | hf
        · rw [if_neg (hin f hf).1, if_neg (hin f hf).2]; exact h2 f hf hn
        · rw [hf]
          rcases he with rfl | rfl
          · rw [if_pos rfl, if_neg nek]
          · rw [if_neg nek, if_pos rfl]
    · rw [h]
      refine ⟨fun x => decide (x = k), ?_, fun f hf hn => ?_⟩
      · rcases he with rfl | rfl
        · simp [nek]
        · simp [nek]
      · rcases memE _ hf with hf | hf
        · simp [(hin f hf).1, (hin f hf).2]
        · exact absurd hf hn
  · have old := g.conn P fun e' h => hP e' (List.mem_append_left _ h)
    have hka : P k ↔ P a := by
      have q := hP e (List.mem_append_right _ (List.mem_singleton.mpr rfl))
      rcases he with rfl | rfl
      · exact q
      · exact q.symm
    rcases mem x hx with hx | rfl <;> rcases mem y hy with hy | rfl
    · exact old x hx y hy
    · exact fun h => hka.mpr (old x hx a ha h)
    · exact fun h => old a ha y hy (hka.mp h)
    · exact fun h => h
  · have A := g.adj
    have em : ∀ u v, EdgeOf es u v → u ≠ k ∧ v ≠ k := fun u v h => ⟨ne _ (g.edge_mem h).1, ne _ (g.edge_mem h).2⟩
    refine ⟨fun s hs u v h => ?_, fun s hs v hv hn => ?_, fun s hs v u u' h h' => ?_⟩
    · rcases mem s hs with hs | rfl
      · rcases edge u v h with h | ⟨rfl, rfl⟩ | ⟨rfl, rfl⟩
        · rw [dLeaf_o (ne s hs) (em u v h).1, dLeaf_o (ne s hs) (em u v h).2]; exact A.step s hs u v h
        · rw [dLeaf_k' (ne s hs), dLeaf_o (ne s hs) nek]; exact .inl rfl
        · rw [dLeaf_k' (ne s hs), dLeaf_o (ne s hs) nek]; exact .inr rfl
      · rcases edge u v h with h | ⟨rfl, rfl⟩ | ⟨rfl, rfl⟩
        · rw [dLeaf_k (em u v h).1, dLeaf_k (em u v h).2]; have := A.step a ha u v h; omega
        · rw [dLeaf_kk, dLeaf_k nek, g.tm.self _ ha]; exact .inr rfl
        · rw [dLeaf_kk, dLeaf_k nek, g.tm.self _ ha]; exact .inl rfl
    · rcases mem s hs with hs | rfl
      · rcases mem v hv with hv | rfl
        · obtain ⟨u, h1, h2⟩ := A.par s hs v hv hn
          refine ⟨u, edge0 v u h1, ?_⟩
          rw [dLeaf_o (ne s hs) (ne v hv), dLeaf_o (ne s hs) (em v u h1).2]; exact h2
        · refine ⟨a, edgek, ?_⟩
          rw [dLeaf_k' (ne s hs), dLeaf_o (ne s hs) nek]
      · rcases mem v hv with hv | rfl
        · by_cases hva : v = a
          · subst hva
            refine ⟨_, edgek.symm, ?_⟩
            rw [dLeaf_k (ne v hv), dLeaf_kk, g.tm.self _ ha]
          · obtain ⟨u, h1, h2⟩ := A.par a ha v hv hva
            refine ⟨u, edge0 v u h1, ?_⟩
            rw [dLeaf_k (ne v hv), dLeaf_k (em v u h1).2, h2]
        · exact absurd rfl hn
    · rcases mem s hs with hs | rfl
      · rcases edge v u h with h | ⟨rfl, rfl⟩ | ⟨rfl, rfl⟩ <;> rcases edge _ u' h' with h' | ⟨e1, rfl⟩ | ⟨e1, rfl⟩
        · rw [dLeaf_o (ne s hs) (em v u h).1, dLeaf_o (ne s hs) (em v u h).2, dLeaf_o (ne s hs) (em v u' h').2]; exact A.uni s hs v u u' h h'
        · exact absurd e1.symm (em v u h).1
        · subst e1
          intro q1 q2
          rw [dLeaf_o (ne s hs) nek, dLeaf_k' (ne s hs)] at q2
          omega
        · exact absurd rfl (em _ _ h').1
        · intro _ _; rfl
        · exact absurd e1 nek
        · intro q1 q2
          rw [dLeaf_o (ne s hs) nek, dLeaf_k' (ne s hs)] at q1
          omega
        · exact absurd e1.symm nek
        · intro _ _; rfl
      · rcases edge v u h with h | ⟨rfl, rfl⟩ | ⟨rfl, rfl⟩ <;> rcases edge _ u' h' with h' | ⟨e1, rfl⟩ | ⟨e1, rfl⟩
        · rw [dLeaf_k (em v u h).1, dLeaf_k (em v u h).2, dLeaf_k (em v u' h').2]
          intro q1 q2
          exact A.uni a ha v u u' h h' (by omega) (by omega)
        · exact absurd e1.symm (em v u h).1
        · subst e1
          intro q1 q2
          rw [dLeaf_k nek, dLeaf_k (em _ u h).2, g.tm.self _ ha] at q1
          omega
        · exact absurd rfl (em _ _ h').1
        · intro _ _; rfl
        · exact absurd e1 nek
        · intro q1 q2
          rw [dLeaf_k nek, dLeaf_k (em _ u' h').2, g.tm.self _ ha] at q2
          omega
        · exact absurd e1.symm nek
        · intro _ _; rfl
end TwM
namespace TwM
variable {α : Type} [DecidableEq α] {ps : List α} {d : α → α → Nat}
/-- the nearest, the first of them -/
def gate (d : α → α → Nat) (S : List α) (x : α) : α := S.foldl (fun b y => if d x y < d x b then y else b) (S.headD x)
theorem foldl_min (f : α → Nat) : ∀ (l : List α) (b : α), (l.foldl (fun b y => if f y < f b then y else b) b = b ∨ l.foldl (fun b y => if f y < f b then y else b) b ∈ l) ∧
    f (l.foldl (fun b y => if f y < f b then y else b) b) ≤ f b ∧ ∀ y ∈ l, f (l.foldl (fun b y => if f y < f b then y else b) b) ≤ f y
  | [], b => ⟨.inl rfl, Nat.le_refl _, fun y h => absurd h (by simp)⟩
  | z :: l, b => by
    have ih := foldl_min f l (if f z < f b then z else b)
    simp only [List.foldl_cons]
    generalize hr : l.foldl (fun b y => if f y < f b then y else b) (if f z < f b then z else b) = r at ih ⊢
    obtain ⟨h1, h2, h3⟩ := ih
    by_cases hz : f z < f b
    · rw [if_pos hz] at h1 h2
      refine ⟨.inr ?_, by omega, fun y hy => ?_⟩
      · rcases h1 with h1 | h1
        · rw [h1]; exact List.mem_cons_self
        · exact List.mem_cons_of_mem _ h1
      · rcases List.mem_cons.mp hy with rfl | hy
        · exact h2
        · exact h3 y hy
    · rw [if_neg hz] at h1 h2
      refine ⟨?_, h2, fun y hy => ?_⟩
      · rcases h1 with h1 | h1
        · exact .inl h1
        · exact .inr (List.mem_cons_of_mem _ h1)
      · rcases List.mem_cons.mp hy with rfl | hy
        · omega
        · exact h3 y hy
theorem gate_min {S : List α} (hS : S ≠ []) (x : α) : gate d S x ∈ S ∧ ∀ y ∈ S, d x (gate d S x) ≤ d x y := by
  cases S with
  | nil => exact absurd rfl hS
  | cons h t =>
    have q := foldl_min (d x) (h :: t) h
    have e : gate d (h :: t) x = (h :: t).foldl (fun b y => if d x y < d x b then y else b) h := rfl
    rw [e]
    refine ⟨?_, q.2.2⟩
    rcases q.1 with q | q
    · rw [q]; exact List.mem_cons_self
    · exact q
def Cvx (ps : List α) (d : α → α → Nat) (S : List α) : Prop := ∀ a ∈ S, ∀ b ∈ S, ∀ x ∈ ps, d a x + d x b = d a b → x ∈ S
/-- a grove, its places in place order -/
structure Gr (ps : List α) (d : α → α → Nat) (S : List α) : Prop where
  ord : S = ps.filter fun x => decide (x ∈ S)
  ne : S ≠ []
  cvx : Cvx ps d S
theorem Gr.sub {S : List α} (g : Gr ps d S) {x : α} (h : x ∈ S) : x ∈ ps := by
  rw [g.ord] at h; exact (List.mem_filter.mp h).1
theorem Gr.nd {S : List α} (g : Gr ps d S) (hn : ps.Nodup) : S.Nodup := by
  rw [g.ord]; exact hn.sublist List.filter_sublist
theorem filter_ord (p : α → Bool) : ps.filter p = ps.filter fun x => decide (x ∈ ps.filter p) := by
  refine List.filter_congr fun x hx => ?_
  rw [Bool.eq_iff_iff, decide_eq_true_iff, List.mem_filter]
  exact ⟨fun h => ⟨hx, h⟩, fun h => h.2⟩
theorem Gr.of_filter {p : α → Bool} (hne : ps.filter p ≠ []) (hc : Cvx ps d (ps.filter p)) : Gr ps d (ps.filter p) := ⟨filter_ord p, hne, hc⟩
/-- two groves with the same places are one list -/
theorem Gr.ext_mem {S S' : List α} (g : Gr ps d S) (g' : Gr ps d S') (h : ∀ x, x ∈ S ↔ x ∈ S') : S = S' := by
  rw [g.ord, g'.ord]
  refine List.filter_congr fun x _ => ?_
  rw [Bool.eq_iff_iff, decide_eq_true_iff, decide_eq_true_iff]
  exact h x
section
variable (T : TM ps d)
include T
theorem gated {S : List α} (g : Gr ps d S) {x h : α} (hx : x ∈ ps) (hh : h ∈ S) (hm : ∀ y ∈ S, d x h ≤ d x y) {a : α} (ha : a ∈ S) : d x a = d x h + d h a := by
  obtain ⟨m, hm', h1, h2, h3⟩ := T.med x hx h (g.sub hh) a (g.sub ha)
  have hms : m ∈ S := g.cvx h hh a ha m hm' h2
  have := hm m hms
  have sm := T.symm m hm' h (g.sub hh)
  have z : d m h = 0 := by omega
  have e := T.zero m hm' h (g.sub hh) z
  subst e
  omega
theorem gate_uniq {S : List α} (g : Gr ps d S) {x h : α} (hx : x ∈ ps) (hh : h ∈ S) (hm : ∀ y ∈ S, d x h ≤ d x y) : gate d S x = h := by
  obtain ⟨q1, q2⟩ := gate_min (d := d) g.ne x
  have e := gated T g hx hh hm q1
  have := q2 h hh
  exact (T.zero _ (g.sub hh) _ (g.sub q1) (by omega)).symm
theorem gate_in {S : List α} (g : Gr ps d S) (x : α) : gate d S x ∈ S := (gate_min g.ne x).1
theorem gate_id {S : List α} (g : Gr ps d S) {x : α} (hx : x ∈ S) : gate d S x = x :=
  gate_uniq T g (g.sub hx) hx fun y hy => by rw [T.self x (g.sub hx)]; exact Nat.zero_le _
theorem gate_iff {S : List α} (g : Gr ps d S) {x : α} : x ∈ S ↔ gate d S x = x :=
  ⟨gate_id T g, fun e => e ▸ gate_in T g x⟩
theorem gate_dist {S : List α} (g : Gr ps d S) {x a : α} (hx : x ∈ ps) (ha : a ∈ S) : d x a = d x (gate d S x) + d (gate d S x) a :=
  gated T g hx (gate_in T g x) (gate_min g.ne x).2 ha
theorem Gr.ext {S S' : List α} (g : Gr ps d S) (g' : Gr ps d S') (h : ∀ x ∈ ps, gate d S x = gate d S' x) : S = S' := by
  refine g.ext_mem g' fun x => ?_
  refine ⟨fun hx => ?_, fun hx => ?_⟩
  · have e := gate_id T g hx
    rw [h x (g.sub hx)] at e
    exact (gate_iff T g').mpr e
  · have e := gate_id T g' hx
    rw [← h x (g'.sub hx)] at e
    exact (gate_iff T g).mpr e
/-! ### two groves that meet -/
def cap (A B : List α) : List α := A.filter fun x => decide (x ∈ B)
omit T in
theorem mem_cap {A B : List α} {x : α} : x ∈ cap A B ↔ x ∈ A ∧ x ∈ B := by unfold cap; rw [List.mem_filter, decide_eq_true_iff]
omit T in
theorem cap_gr {A B : List α} (a : Gr ps d A) (b : Gr ps d B) (hne : cap A B ≠ []) : Gr ps d (cap A B) := by
  have e : cap A B = ps.filter fun x => decide (x ∈ A) && decide (x ∈ B) := by
    unfold cap
    rw [show A.filter (fun x => decide (x ∈ B)) = (ps.filter fun x => decide (x ∈ A)).filter (fun x => decide (x ∈ B)) by rw [← a.ord], List.filter_filter]
    exact List.filter_congr fun x _ => Bool.and_comm _ _
  have c : Cvx ps d (cap A B) := fun u hu v hv x hx q => mem_cap.mpr ⟨a.cvx u (mem_cap.mp hu).1 v (mem_cap.mp hv).1 x hx q, b.cvx u (mem_cap.mp hu).2 v (mem_cap.mp hv).2 x hx q⟩
  rw [e] at hne c ⊢
  exact Gr.of_filter hne c
theorem gate_meet {A B : List α} (a : Gr ps d A) (b : Gr ps d B) (hne : cap A B ≠ []) {x : α} (hx : x ∈ ps) : gate d (cap A B) x = gate d B (gate d A x) := by
  obtain ⟨c, hc⟩ := List.exists_mem_of_ne_nil _ hne
  have gA := gate_in T a x
  have gB := gate_in T b (gate d A x)
  have i1 : gate d B (gate d A x) ∈ A := a.cvx _ gA c (mem_cap.mp hc).1 _ (b.sub gB) (gate_dist T b (a.sub gA) (mem_cap.mp hc).2).symm
  refine gate_uniq T (cap_gr a b hne) hx (mem_cap.mpr ⟨i1, gB⟩) fun y hy => ?_
  have e1 := gate_dist T a hx (mem_cap.mp hy).1
  have e2 := gate_dist T b (a.sub gA) (mem_cap.mp hy).2
  have e3 := gate_dist T a hx i1
  omega
/-! ### two groves apart -/
theorem gate_const {A B : List α} (a : Gr ps d A) (b : Gr ps d B) (hap : cap A B = []) {x y : α} (hx : x ∈ A) (hy : y ∈ A) : gate d B x = gate d B y := by
  have gx := gate_in T b x
  have gy := gate_in T b y
  have e1 := gate_dist T b (a.sub hx) gy
  have e2 := gate_dist T b (a.sub hy) gx
  have s1 := T.symm _ (b.sub gx) _ (b.sub gy)
  have f := T.four x (a.sub hx) _ (b.sub gy) y (a.sub hy) _ (b.sub gx)
  have t1 := T.tri x (a.sub hx) _ (b.sub gx) y (a.sub hy)
  have s2 := T.symm y (a.sub hy) _ (b.sub gx)
  have s3 := T.symm y (a.sub hy) _ (b.sub gy)
  by_cases q : d (gate d B x) (gate d B y) = 0
  · exact T.zero _ (b.sub gx) _ (b.sub gy) q
  · have m : gate d B x ∈ A := a.cvx x hx y hy _ (b.sub gx) (by omega)
    have : gate d B x ∈ cap A B := mem_cap.mpr ⟨m, gx⟩
    rw [hap] at this
    exact absurd this (by simp)
theorem single_gr {b : α} (hb : b ∈ ps) (hn : ps.Nodup) : Gr ps d [b] := by
  refine ⟨?_, by simp, fun u hu v hv x hx q => ?_⟩
  · have : ∀ l : List α, l.Nodup → b ∈ l → [b] = l.filter fun x => decide (x ∈ [b]) := by
      intro l
      induction l with
      | nil => intro _ h; exact absurd h (by simp)
      | cons c r ih =>
        intro hn hm
        obtain ⟨h1, h2⟩ := List.nodup_cons.mp hn
        rcases List.mem_cons.mp hm with rfl | hm
        · rw [List.filter_cons]
          simp only [List.mem_singleton, decide_true, if_true]
          congr 1
          symm
          rw [List.filter_eq_nil_iff]
          intro z hz q
          rw [decide_eq_true_iff] at q
          rw [q] at hz
          exact h1 hz
        · rw [List.filter_cons]
          have hcb : c ≠ b := fun e => h1 (e ▸ hm)
          rw [if_neg (by simp [hcb])]
          exact ih h2 hm
    exact this ps hn hb
  · rw [List.mem_singleton] at hu hv ⊢
    subst hu hv
    have s := T.self _ hb
    exact (T.zero _ hb x hx (by omega)).symm
/-! ### one after the other -/
omit T in
def aft (d : α → α → Nat) (A B : List α) : List α := if cap A B = [] then (match A with
  | a :: _ => [gate d B a]
  | [] => []) else cap A B
omit T in
theorem aft_apart {A B : List α} {a : α} {r : List α} (e : A = a :: r) (h : cap A B = []) : aft d A B = [gate d B a] := by
  unfold aft; rw [if_pos h, e]
omit T in
theorem aft_meet {A B : List α} (h : cap A B ≠ []) : aft d A B = cap A B := by unfold aft; rw [if_neg h]
omit T in
theorem ne_cons {A : List α} (h : A ≠ []) : ∃ a r, A = a :: r := by
  cases A with
  | nil => exact absurd rfl h
  | cons a r => exact ⟨a, r, rfl⟩
theorem aft_gr {A B : List α} (hn : ps.Nodup) (a : Gr ps d A) (b : Gr ps d B) : Gr ps d (aft d A B) := by
  by_cases h : cap A B = []
  · obtain ⟨x, r, e⟩ := ne_cons a.ne
    rw [aft_apart e h]
    exact single_gr T (b.sub (gate_in T b x)) hn
  · rw [aft_meet h]; exact cap_gr a b h
omit [DecidableEq α] T in
theorem gate_single [DecidableEq α] (b x : α) : gate d [b] x = b := by
  have := (gate_min (d := d) (S := [b]) (by simp) x).1
  exact List.mem_singleton.mp this
theorem gate_aft {A B : List α} (hn : ps.Nodup) (a : Gr ps d A) (b : Gr ps d B) {x : α} (hx : x ∈ ps) : gate d (aft d A B) x = gate d B (gate d A x) := by
  by_cases h : cap A B = []
  · obtain ⟨y, r, e⟩ := ne_cons a.ne
    rw [aft_apart e h, gate_single]
    exact gate_const T a b h (by rw [e]; exact List.mem_cons_self) (gate_in T a x)
  · rw [aft_meet h]; exact gate_meet T a b h hx
theorem aft_assoc {A B C : List α} (hn : ps.Nodup) (a : Gr ps d A) (b : Gr ps d B) (c : Gr ps d C) : aft d (aft d A B) C = aft d A (aft d B C) := by
  have ab := aft_gr T hn a b
  have bc := aft_gr T hn b c
  refine Gr.ext T (aft_gr T hn ab c) (aft_gr T hn a bc) fun x hx => ?_
  rw [gate_aft T hn ab c hx, gate_aft T hn a b hx, gate_aft T hn a bc hx, gate_aft T hn b c (a.sub (gate_in T a x))]
theorem aft_self {A : List α} (hn : ps.Nodup) (a : Gr ps d A) : aft d A A = A := by
  refine Gr.ext T (aft_gr T hn a a) a fun x hx => ?_
  rw [gate_aft T hn a a hx, gate_id T a (gate_in T a x)]
theorem aft_dup {A B : List α} (hn : ps.Nodup) (a : Gr ps d A) (b : Gr ps d B) : aft d (aft d A B) A = aft d B A := by
  have ab := aft_gr T hn a b
  have ba := aft_gr T hn b a
  refine Gr.ext T (aft_gr T hn ab a) ba fun x hx => ?_
  rw [gate_aft T hn ab a hx, gate_aft T hn a b hx, gate_aft T hn b a hx]
  by_cases h : cap A B = []
  · have h' : cap B A = [] := by
      cases q : cap B A with
      | nil => rfl
      | cons z r =>
        have hz : z ∈ cap B A := by rw [q]; exact List.mem_cons_self
        have : z ∈ cap A B := mem_cap.mpr ⟨(mem_cap.mp hz).2, (mem_cap.mp hz).1⟩
        rw [h] at this; exact absurd this (by simp)
    exact gate_const T b a h' (gate_in T b _) (gate_in T b _)
  · have h' : cap B A ≠ [] := by
      obtain ⟨z, hz⟩ := List.exists_mem_of_ne_nil _ h
      intro q
      have : z ∈ cap B A := mem_cap.mpr ⟨(mem_cap.mp hz).2, (mem_cap.mp hz).1⟩
      rw [q] at this; exact absurd this (by simp)
    have e : cap A B = cap B A := Gr.ext_mem (cap_gr a b h) (cap_gr b a h') fun z => by rw [mem_cap, mem_cap]; exact And.comm
    rw [← gate_meet T a b h hx, ← gate_meet T b a h' hx, ← e]
    have i := gate_in T (cap_gr a b h) x
    exact gate_id T a (mem_cap.mp i).1
/-- the near place of the bridge lies in both exactly if they meet -/
theorem bridge_iff {A B : List α} (a : Gr ps d A) (b : Gr ps d B) {x : α} (hx : x ∈ A) : gate d A (gate d B x) = gate d B x ↔ cap A B ≠ [] := by
  refine ⟨fun e q => ?_, fun h => ?_⟩
  · have i : gate d B x ∈ A := (gate_iff T a).mpr e
    have : gate d B x ∈ cap A B := mem_cap.mpr ⟨i, gate_in T b x⟩
    rw [q] at this; exact absurd this (by simp)
  · have e := gate_meet T a b h (a.sub hx)
    rw [gate_id T a hx] at e
    have i := gate_in T (cap_gr a b h) x
    rw [e] at i
    exact gate_id T a (mem_cap.mp i).1
theorem aft_len_right {A B : List α} (hn : ps.Nodup) (a : Gr ps d A) (b : Gr ps d B) (h : B.length = 1) : (aft d A B).length = 1 := by
  obtain ⟨z, rfl⟩ := List.length_eq_one_iff.mp h
  have g := aft_gr T hn a b
  have : aft d A [z] = [z] := Gr.ext T g b fun x hx => by rw [gate_aft T hn a b hx, gate_single, gate_single]
  rw [this]; rfl
theorem aft_len_left {A B : List α} (hn : ps.Nodup) (a : Gr ps d A) (b : Gr ps d B) (h : A.length = 1) : (aft d A B).length = 1 := by
  have g := aft_gr T hn a b
  obtain ⟨z, rfl⟩ := List.length_eq_one_iff.mp h
  by_cases q : cap [z] B = []
  · rw [aft_apart rfl q]; rfl
  · have := aft_meet (d := d) q
    have l : (cap [z] B).length ≤ 1 := List.length_filter_le _ _
    have : (aft d [z] B).length ≠ 0 := fun e => g.ne (List.length_eq_zero_iff.mp e)
    rw [aft_meet q] at this ⊢
    omega
theorem aft_len_apart {A B : List α} (a : Gr ps d A) (h : cap A B = []) : (aft d A B).length = 1 := by
  obtain ⟨x, r, e⟩ := ne_cons a.ne
  rw [aft_apart e h]; rfl
/-! ### rows of groves -/
def comp (d : α → α → Nat) : List α → List (List α) → List α
  | A, [] => A
  | A, B :: r => comp d (aft d A B) r
omit T in
theorem comp_append (A : List α) : ∀ (l m : List (List α)), comp d A (l ++ m) = comp d (comp d A l) m := by
  intro l
  induction l generalizing A with
  | nil => intro m; rfl
  | cons B r ih => intro m; exact ih _ m
theorem comp_gr (hn : ps.Nodup) : ∀ {l : List (List α)} {A : List α}, Gr ps d A → (∀ B ∈ l, Gr ps d B) → Gr ps d (comp d A l)
  | [], _, a, _ => a
  | B :: r, A, a, h => by
    show Gr ps d (comp d (aft d A B) r)
    exact comp_gr (l := r) hn (aft_gr T hn a (h B List.mem_cons_self)) fun C hC => h C (List.mem_cons_of_mem _ hC)
theorem comp_gate (hn : ps.Nodup) : ∀ {l : List (List α)} {A : List α}, Gr ps d A → (∀ B ∈ l, Gr ps d B) → ∀ x ∈ ps, gate d (comp d A l) x = l.foldl (fun y B => gate d B y) (gate d A x)
  | [], _, _, _, _, _ => rfl
  | B :: r, A, a, h, x, hx => by
    show gate d (comp d (aft d A B) r) x = _
    rw [comp_gate hn (aft_gr T hn a (h B List.mem_cons_self)) (fun C hC => h C (List.mem_cons_of_mem _ hC)) x hx, gate_aft T hn a (h B List.mem_cons_self) hx]
    rfl
theorem comp_assoc (hn : ps.Nodup) : ∀ {l : List (List α)} {A B : List α}, Gr ps d A → Gr ps d B → (∀ C ∈ l, Gr ps d C) → comp d (aft d A B) l = aft d A (comp d B l)
  | [], _, _, _, _, _ => rfl
  | C :: r, A, B, a, b, h => by
    have c := h C List.mem_cons_self
    show comp d (aft d (aft d A B) C) r = aft d A (comp d (aft d B C) r)
    rw [aft_assoc T hn a b c, comp_assoc hn a (aft_gr T hn b c) fun D hD => h D (List.mem_cons_of_mem _ hD)]
/-- a grove that comes again later can be left out -/
theorem comp_drop (hn : ps.Nodup) {A B : List α} {l : List (List α)} (a : Gr ps d A) (b : Gr ps d B) (h : ∀ C ∈ l, Gr ps d C) (hm : A ∈ B :: l) : comp d A (B :: l) = comp d B l := by
  show comp d (aft d A B) l = comp d B l
  rcases List.mem_cons.mp hm with rfl | hm
  · rw [aft_self T hn a]
  · obtain ⟨p, q, rfl⟩ := List.append_of_mem hm
    have hp : ∀ C ∈ p, Gr ps d C := fun C hC => h C (List.mem_append_left _ hC)
    rw [comp_append, comp_append]
    show comp d (aft d (comp d (aft d A B) p) A) q = comp d (aft d (comp d B p) A) q
    rw [comp_assoc T hn a b hp, aft_dup T hn a (comp_gr T hn b hp)]
omit T in
/-- those that do not come again later -/
def late : List (List α) → List (List α)
  | [] => []
  | A :: r => if A ∈ r then late r else A :: late r
omit T in
theorem late_ne : ∀ {l : List (List α)}, l ≠ [] → late l ≠ []
  | [], h => absurd rfl h
  | A :: r, _ => by
    unfold late
    split
    · rename_i h
      exact late_ne (List.ne_nil_of_mem h)
    · simp
omit T in
theorem late_sub : ∀ {l : List (List α)} {B : List α}, B ∈ late l → B ∈ l
  | A :: r, B, h => by
    unfold late at h
    split at h
    · exact List.mem_cons_of_mem _ (late_sub h)
    · rcases List.mem_cons.mp h with rfl | h
      · exact List.mem_cons_self
      · exact List.mem_cons_of_mem _ (late_sub h)
omit T in
/-- the composition of a row that is not empty -/
def comp1 (d : α → α → Nat) : List (List α) → List α
  | [] => []
  | A :: r => comp d A r
theorem comp1_late (hn : ps.Nodup) : ∀ {l : List (List α)}, (∀ B ∈ l, Gr ps d B) → comp1 d (late l) = comp1 d l
  | [], _ => rfl
  | A :: r, h => by
    have hr : ∀ B ∈ r, Gr ps d B := fun B hB => h B (List.mem_cons_of_mem _ hB)
    have ih := comp1_late hn hr
    have a := h A List.mem_cons_self
    unfold late
    split
    · rename_i hm
      rw [ih]
      cases r with
      | nil => exact absurd hm (by simp)
      | cons B q =>
        exact (comp_drop T hn a (hr B List.mem_cons_self) (fun C hC => hr C (List.mem_cons_of_mem _ hC)) hm).symm
    · rename_i hm
      cases r with
      | nil => rfl
      | cons B q =>
        have hl : late (B :: q) ≠ [] := late_ne (by simp)
        obtain ⟨C, m, e⟩ : ∃ C m, late (B :: q) = C :: m := by
          cases e : late (B :: q) with
          | nil => exact absurd e hl
          | cons C m => exact ⟨C, m, rfl⟩
        have hin : ∀ D ∈ C :: m, Gr ps d D := fun D hD => hr D (late_sub (by rw [e]; exact hD))
        show comp d A (late (B :: q)) = comp d A (B :: q)
        rw [e] at ih ⊢
        show comp d (aft d A C) m = comp d (aft d A B) q
        rw [comp_assoc T hn a (hin C List.mem_cons_self) fun D hD => hin D (List.mem_cons_of_mem _ hD),
          comp_assoc T hn a (hr B List.mem_cons_self) fun D hD => hr D (List.mem_cons_of_mem _ hD)]
        exact congrArg (aft d A) ih
theorem comp_len (hn : ps.Nodup) : ∀ {l : List (List α)} {A : List α}, Gr ps d A → (∀ B ∈ l, Gr ps d B) → A.length = 1 → (comp d A l).length = 1
  | [], _, _, _, h => h
  | B :: r, A, a, h, e => by
    show (comp d (aft d A B) r).length = 1
    exact comp_len (l := r) hn (aft_gr T hn a (h B List.mem_cons_self)) (fun C hC => h C (List.mem_cons_of_mem _ hC)) (aft_len_left T hn a (h B List.mem_cons_self) e)
/-- two in a row apart: one place is left -/
theorem comp1_apart (hn : ps.Nodup) {p q : List (List α)} {A B : List α} (h : ∀ C ∈ p ++ A :: B :: q, Gr ps d C) (hap : cap A B = []) : (comp1 d (p ++ A :: B :: q)).length = 1 := by
  have a := h A (by simp)
  have b := h B (by simp)
  have hq : ∀ C ∈ q, Gr ps d C := fun C hC => h C (by simp [hC])
  cases p with
  | nil =>
    show (comp d (aft d A B) q).length = 1
    exact comp_len (l := q) T hn (aft_gr T hn a b) hq (aft_len_apart T a hap)
  | cons C r =>
    have c := h C (by simp)
    have hr : ∀ D ∈ r, Gr ps d D := fun D hD => h D (by simp [hD])
    show (comp d C (r ++ A :: B :: q)).length = 1
    rw [comp_append]
    have g := comp_gr T hn c hr
    show (comp d (aft d (aft d (comp d C r) A) B) q).length = 1
    refine comp_len (l := q) T hn (aft_gr T hn (aft_gr T hn g a) b) hq ?_
    rw [aft_assoc T hn g a b]
    exact aft_len_right T hn g (aft_gr T hn a b) (aft_len_apart T a hap)
/-- two neighbours of a row brought together: the same composition -/
theorem comp1_join (hn : ps.Nodup) {p q : List (List α)} {A B : List α} (h : ∀ C ∈ p ++ A :: B :: q, Gr ps d C) : comp1 d (p ++ aft d A B :: q) = comp1 d (p ++ A :: B :: q) := by
  have a := h A (by simp)
  have b := h B (by simp)
  cases p with
  | nil => rfl
  | cons C r =>
    have c := h C (by simp)
    have hr : ∀ D ∈ r, Gr ps d D := fun D hD => h D (by simp [hD])
    show comp d C (r ++ aft d A B :: q) = comp d C (r ++ A :: B :: q)
    rw [comp_append, comp_append]
    show comp d (aft d (comp d C r) (aft d A B)) q = comp d (aft d (aft d (comp d C r) A) B) q
    rw [aft_assoc T hn (comp_gr T hn c hr) a b]
/-! ### the shapes -/
theorem cvx_all : Cvx ps d ps := fun _ _ _ _ _ hx _ => hx
theorem cvx_ball {c : α} (hc : c ∈ ps) (r : Int) {S : List α} (hS : ∀ x, x ∈ S ↔ x ∈ ps ∧ (d c x : Int) ≤ r) : Cvx ps d S := fun a ha b hb x hx q => by
  obtain ⟨ha, ra⟩ := (hS a).mp ha
  obtain ⟨hb, rb⟩ := (hS b).mp hb
  refine (hS x).mpr ⟨hx, ?_⟩
  have f := T.four c hc x hx a ha b hb
  have s1 := T.symm x hx b hb
  have s2 := T.symm a ha x hx
  omega
theorem cvx_way {u v : α} (hu : u ∈ ps) (hv : v ∈ ps) {S : List α} (hS : ∀ x, x ∈ S ↔ x ∈ ps ∧ d u x + d x v = d u v) : Cvx ps d S := fun a ha b hb x hx q => by
  obtain ⟨ha, ra⟩ := (hS a).mp ha
  obtain ⟨hb, rb⟩ := (hS b).mp hb
  refine (hS x).mpr ⟨hx, ?_⟩
  have t := T.tri u hu x hx v hv
  have f1 := T.four u hu x hx a ha b hb
  have f2 := T.four v hv x hx a ha b hb
  have f3 := T.four u hu a ha v hv b hb
  have f4 := T.four u hu b hb v hv a ha
  have s1 := T.symm x hx b hb
  have s2 := T.symm x hx a ha
  have s3 := T.symm x hx v hv
  have s4 := T.symm a ha v hv
  have s5 := T.symm b hb v hv
  have s6 := T.symm a ha b hb
  omega
theorem cvx_branch {u w : α} (hu : u ∈ ps) (hw : w ∈ ps) (hd : d u w = 1) (hstep : ∀ s ∈ ps, d s u = d s w + 1 ∨ d s w = d s u + 1) {S : List α} (hS : ∀ x, x ∈ S ↔ x ∈ ps ∧ d u w + d w x = d u x) : Cvx ps d S := fun a ha b hb x hx q => by
  obtain ⟨ha, ra⟩ := (hS a).mp ha
  obtain ⟨hb, rb⟩ := (hS b).mp hb
  refine (hS x).mpr ⟨hx, ?_⟩
  have st := hstep x hx
  have s1 := T.symm u hu x hx
  have s2 := T.symm w hw x hx
  have s3 := T.symm x hx a ha
  have s4 := T.symm x hx b hb
  have s5 := T.symm u hu w hw
  have f1 := T.four w hw x hx u hu a ha
  have f2 := T.four w hw x hx u hu b hb
  have t := T.tri a ha w hw b hb
  have s6 := T.symm a ha w hw
  omega
/-- one more place beside a grove -/
theorem cvx_more {S : List α} (hsub : ∀ x ∈ S, x ∈ ps) (hc : Cvx ps d S) {s v : α} (hs : s ∈ S) (hv : v ∈ ps) (hstep : ∀ x ∈ ps, d x v = d x s + 1 ∨ d x s = d x v + 1) (hsv : d s v = 1) {S' : List α} (hS : ∀ x, x ∈ S' ↔ x ∈ S ∨ x = v) : Cvx ps d S' := by
  have hs' := hsub s hs
  have key : ∀ a ∈ S, ∀ x ∈ ps, d v x + d x a = d v a → x ∈ S' := fun a ha x hx q => by
    have ha' := hsub a ha
    refine (hS x).mpr ?_
    have s1 := T.symm a ha' v hv
    have s2 := T.symm a ha' s hs'
    have s3 := T.symm x hx v hv
    have s4 := T.symm x hx s hs'
    have s5 := T.symm x hx a ha'
    have s6 := T.symm s hs' v hv
    rcases hstep a ha' with h1 | h1
    · rcases hstep x hx with h2 | h2
      · exact .inl (hc s hs a ha x hx (by omega))
      · have f := T.four x hx s hs' v hv a ha'
        exact .inr (T.zero x hx v hv (by omega))
    · have hvS : v ∈ S := hc s hs a ha v hv (by omega)
      exact .inl (hc v hvS a ha x hx q)
  intro a ha b hb x hx q
  rcases (hS a).mp ha with ha' | rfl <;> rcases (hS b).mp hb with hb' | rfl
  · exact (hS x).mpr (.inl (hc a ha' b hb' x hx q))
  · have s1 := T.symm a (hsub a ha') x hx
    have s2 := T.symm x hx b hv
    have s3 := T.symm a (hsub a ha') b hv
    exact key a ha' x hx (by omega)
  · exact key b hb' x hx q
  · have z := T.self _ hv
    exact (hS x).mpr (.inr (T.zero _ hv x hx (by omega)).symm)
end
end TwM
/-! own rules over the hand layer -/
namespace Tw
open PySem PySem.Spec PyProof.Rows L2
section
variable {P : Program} {w : World} {K : PySem.W.Frag} {mg : Str → Option Value} {base : Heap}
/-- a def by its body, its promise by position -/
theorem okR {x qual : Str} {st : Stmt} {f : Addr} {fd : FuncData} {N ps : List Str} {k : Nat} {sp : Sp} (F : Fun K x qual st f fd) (S : FnScope N ps (defScope st)) (len : ∀ vs H Q E, sp vs H Q E → vs.length = ps.length)
    (hb : ∀ (kV doc pm : Value) (an : Option Addr) (cdv ct : Value) (us : List Value), us.length = ps.length → bindArgs (PySem.W.fnOf x qual (defArgs st) (defBody st) (defScope st) .none kV doc pm an cdv ct) ⟨us, []⟩ = pure (ps.zip us))
    (hbody : ∀ (cdv : Value) (A : Around) (outer : List Env) (s : Shared) (H : Hp) (vs : List V) (Q : VK) (E : XK), Room k (A.deeper (envOfC qual (defScope st) s.heap.objs.size f cdv)) → sp vs H Q E →
      ∃ t, PSs (cxOf CX0 P w K mg base N qual (defScope st) f cdv A outer s H E).nox (defBody st) t ∧ t { nx := fun _ H' => Q .non H', rt := Q } (start N vs) H) : FnR P w K mg base CX0 (k + 1) f sp := by
  intro A outer s H us vs Q E hr e0 r hsp
  have G : FnOk P w K mg base CX0 (k + 1) f fd ps sp := F.ok S len hbody
  have B := F.binds (ps := ps) hb
  have hl : us.length = ps.length := by rw [← r.length]; exact len _ _ _ _ hsp
  have KX : K.In s.heap := e0.mod.kin.keeps fun b o e => (e0.bs b o e).1
  have bt := B s us KX (by rw [List.append_nil]; exact hl)
  rw [List.append_nil] at bt
  exact G.run A outer s H ⟨us, []⟩ us vs Q E hr e0 bt r hsp
end
/-- a def of the module by its name -/
structure GFn (K : PySem.W.Frag) (mg : Str → Option Value) (x : Str) (f : Addr) : Prop where
  mg_ : mg x = some (.ref f)
  kp : PySem.W.keepIn K (.ref f) = true
section
variable {X : Cx} {CX : CXT} {k i : Nat} {f C : Addr} {sp : Sp} {E : XK} {x m : Str} {e o : Expr} {es : List Expr} {te ta : TE} {t : TA} {p sp_ pos apos : Pos}
def tCR (sp : Sp) (E : XK) (t : TA) : TE := fun σ H Q => t σ H fun vs H1 => sp vs H1 Q E
/-- f(e, ..) by a promise by position -/
theorem cR (G : GFn X.K X.mg x f) (F : FnR X.prog X.w X.K X.mg X.base CX0 k f sp) (hr : Room k X.A) (hg : Gl X x) (ha : PA X (e :: es) t) (hd : (x == ("__debug__" : Str)) = false := by decide)
    (he : starEach (e :: es) X.env = (false, eval e X.env) :: starEach es X.env := by rfl) (hpl : (backTo pos (starEach es X.env)).any (·.1) = false := by rfl) :
    PE X (.Call (.Name x p) (e :: es) [] pos) (tCR sp E0 t) := by
  refine ⟨fun pins s σ H Q I h => ?_⟩
  refine wpAny_Call_Name_kw (ld_glob I hg G.mg_ ?_ hd)
  refine PySem.W.callWith_K (h₀ := X.base) I.ok.mod.kin G.kp (thn (ha.run pos pins s σ H _ I h) fun us s1 ⟨vs, H1, I1, r, q⟩ => ⟨I1.kIn, ?_⟩) he hpl
  exact wpAny_call (run_fnR F hr pass0 I1 r q)
/-- o.m(e, ..) where the class of o is told at run time: Gc says which classes it may be -/
def tMethG (K : PySem.W.Frag) (m : Str) (f : Addr) (sp : Sp) (ta : TE) (t : TA) : TE := fun σ H Q => ta σ H fun x H1 => ∃ a C dx fs, x = .ref a ∧ H1 a = some (.ins C dx fs) ∧ Cls K C ∧ Meth K C m f ∧ fs.lookup m = none ∧
  t σ H1 fun vs H2 => sp (x :: vs) H2 Q E0
theorem pe_methG {pl : Sem Bool} (he : PE X o ta) (F : FnR X.prog X.w X.K X.mg X.base CX0 k f sp) (hr : Room k X.A) (kp : PySem.W.keepIn X.K (.ref f) = true) (ha : PA X (e :: es) t)
    (hst : starEach (e :: es) X.env = (false, eval e X.env) :: starEach es X.env := by rfl) (hpl : (backTo pos (starEach es X.env)).any (·.1) = false := by rfl)
    (ht : eval (.Call (.Attribute o m apos) (e :: es) [] pos) X.env = (do
      let ov ← eval o X.env
      standAt apos.atName
      let (f, first) ← holding [ov] (getMethod ov m pl)
      callWith pos f first (backTo pos (starEach (e :: es) X.env)) (backToKw pos (keywordEach [] X.env))) := by rfl) :
    PE X (.Call (.Attribute o m apos) (e :: es) [] pos) (tMethG X.K m f sp ta t) := by
  refine ⟨fun pins s σ H Q I h => ?_⟩
  refine PySem.W.methodCall_KW (pl := pl) (thn (he.run pins s σ H _ I h) fun u s1 ⟨x, H1, I1, rx, a, C, dx, fs, ex, ea, c, hm, l, q⟩ => ?_) ht
  subst ex
  obtain rfl : u = Value.ref a := rx
  refine getmeth_ok I1 ea c hm l ?_
  refine PySem.W.callWith_K (first := [.ref a]) (h₀ := X.base) I.ok.mod.kin kp (thn (ha.run pos pins s1 σ H1 _ I1 q) fun us s2 ⟨vs, H2, I2, r, q2⟩ => ⟨I2.kIn, ?_⟩) hst hpl
  exact wpAny_call (run_fnR (us := .ref a :: us) (vs := .ref a :: vs) F hr pass0 I2 (.cons rfl r) q2)
/-- f(e, ..), f an instance -/
def tCallI (X : Cx) (g : Addr) (sp : Sp) (tf : TE) (t : TA) : TE := fun σ H Q => tf σ H fun y H1 => ∃ a, y = V.ref a ∧ t σ H1 fun vs H2 => (∃ C dx fs, H2 a = some (.ins C dx fs) ∧ StX.CallO X.K C g) ∧ sp (V.ref a :: vs) H2 Q E0
theorem pe_callI {g : Addr} {fe : Expr} {tf : TE} (hf : PE X fe tf) (F : FnR X.prog X.w X.K X.mg X.base CX0 k g sp) (hr : Room k X.A) (ha : PA X (e :: es) t)
    (ht : eval (.Call fe (e :: es) [] pos) X.env = (do callWith pos (← eval fe X.env) [] (backTo pos (starEach (e :: es) X.env)) (backToKw pos (keywordEach [] X.env))) := by rfl)
    (he : starEach (e :: es) X.env = (false, eval e X.env) :: starEach es X.env := by rfl) (hpl : (backTo pos (starEach es X.env)).any (·.1) = false := by rfl) : PE X (.Call fe (e :: es) [] pos) (tCallI X g sp tf t) := by
  refine ⟨fun pins s σ H Q I h => ?_⟩
  refine Call_ (thn (hf.run pins s σ H _ I h) fun u s1 ⟨y, H1, I1, ry, a, ey, q⟩ => ?_) ht
  subst ey
  obtain rfl : u = Value.ref a := ry
  refine StX.callO_with (thn (ha.run pos pins s1 σ H1 _ I1 q) fun us s2 ⟨vs, H2, I2, r, ⟨C, dx, fs, hi, c⟩, q2⟩ => ?_) he hpl
  obtain ⟨ox, od, J, hd⟩ := StX.insC_at I2 (C := C) (.inr ⟨dx, fs, hi⟩)
  exact ⟨⟨C, ox, od, J, hd⟩, StX.run_callO c F hr pass0 I2 (.inr ⟨dx, fs, hi⟩) r q2⟩
end
end Tw
namespace Tw
open PySem PySem.Spec PyProof.Rows L2
section
variable {X : Cx} {k : Nat} {g : Addr} {sp : Sp}
/-- x in o, o an instance with an own __contains__ -/
def rInI (K : PySem.W.Frag) (g : Addr) (sp : Sp) (neg : Bool) : R2 := fun x y H Q => ∃ a C dx fs, y = .ref a ∧ H a = some (.ins C dx fs) ∧ PySem.W.findIn K (.ref C) "__contains__" = some (some (.ref g)) ∧
  sp [y, x] H (fun z H' => ∃ b, z = .bl b ∧ Q (.bl (if neg then !b else b)) H') E0
theorem op_inI (hf : PySem.W.isFn X.K (.ref g) = true) (F : FnR X.prog X.w X.K X.mg X.base CX0 k g sp) (hr : Room k X.A) : OpR X (compareOp .In) (rInI X.K g sp false) := by
  intro pins s σ H x y v u Q I rx ry h
  obtain ⟨a, C, dx, fs, rfl, ha, hs, q⟩ := h
  cases ry
  obtain ⟨mA, O, _⟩ := ins_get I.hok ha
  obtain ⟨od, J, _⟩ := O.look
  obtain ⟨m, hF⟩ := I.fr
  refine PySem.W.in_K hF I.ok.mod.kin J hs hf (thn (wpAny_call (run_fnR (us := [.ref a, v]) (vs := [.ref a, x]) F hr pass0 I (.cons rfl (.cons rx .nil)) q)) fun r s' z => ?_)
  obtain ⟨z, H', I', rz, b, ez, qb⟩ := z
  subst ez
  cases rz
  exact wpAny_truthy_bool ⟨.bl b, H', I', rfl, qb⟩
theorem op_notInI (hf : PySem.W.isFn X.K (.ref g) = true) (F : FnR X.prog X.w X.K X.mg X.base CX0 k g sp) (hr : Room k X.A) : OpR X (compareOp .NotIn) (rInI X.K g sp true) := by
  intro pins s σ H x y v u Q I rx ry h
  obtain ⟨a, C, dx, fs, rfl, ha, hs, q⟩ := h
  cases ry
  obtain ⟨mA, O, _⟩ := ins_get I.hok ha
  obtain ⟨od, J, _⟩ := O.look
  obtain ⟨m, hF⟩ := I.fr
  refine PySem.W.notIn_K hF I.ok.mod.kin J hs hf (thn (wpAny_call (run_fnR (us := [.ref a, v]) (vs := [.ref a, x]) F hr pass0 I (.cons rfl (.cons rx .nil)) q)) fun r s' z => ?_)
  obtain ⟨z, H', I', rz, b, ez, qb⟩ := z
  subst ez
  cases rz
  exact wpAny_truthy_bool ⟨.bl (!b), H', I', rfl, qb⟩
end
end Tw
namespace Tw
open PySem PySem.Spec PyProof.Rows L2
section
variable {X : Cx} {k : Nat} {g : Addr} {sp : Sp} {pins : List (Addr × Obj)} {σ : L2.St} {H : Hp} {s : Shared}
/-- a def of the text called by the machine itself -/
theorem runAt {A : Around} {E : Value → Shared → Prop} {Q : VK} {us : List Value} {vs : List V} (F : FnR X.prog X.w X.K X.mg X.base CX0 k g sp) (hr : Room k A) (fr : A.frames = X.A.frames) (I : Inv X pins σ H s) (r : Vals vs us) (h : sp vs H Q E0) :
    wpAny (model X.prog X.w) A (call (.ref g) us) (EP X pins σ Q) E s := by
  have e := I.env0
  have e0 : Env0 X.prog X.w X.K X.mg X.base A X.stack s H := ⟨fr.trans e.frames, e.mod, e.bs, e.bsz, e.funs, e.frf, e.hok, e.bare⟩
  refine wpAny_call (codeAny_mono (F A X.stack s H us vs Q E0 hr e0 r h) fun r s' hq => ?_)
  cases r with
  | error e => exact False.elim hq
  | ok fl =>
    cases fl with
    | ret u => exact I.after hq
    | next => exact False.elim hq
    | brk => exact False.elim hq
    | cont => exact False.elim hq
/-- len(o) -/
def rLenI (K : PySem.W.Frag) (g : Addr) (sp : Sp) : List V → Hp → VK → Prop := fun xs H Q => ∃ a C dx fs, xs = [.ref a] ∧ H a = some (.ins C dx fs) ∧ PySem.W.findIn K (.ref C) "__len__" = some (some (.ref g)) ∧
  sp [.ref a] H (fun z H' => ∃ n : Int, z = .int n ∧ 0 ≤ n ∧ n < 2 ^ 63 ∧ Q (.int n) H') E0
theorem call_lenI (hf : PySem.W.isFn X.K (.ref g) = true) (F : FnR X.prog X.w X.K X.mg X.base CX0 k g sp) (hr : Room (k + 1) X.A) : CallR X (.builtin "len") (rLenI X.K g sp) := by
  intro pins s σ H xs us Q I r h
  obtain ⟨a, C, dx, fs, rfl, ha, hs, q⟩ := h
  obtain ⟨u, rfl, ru⟩ := vals1 r
  cases ru
  obtain ⟨mA, O, _⟩ := ins_get I.hok ha
  obtain ⟨od, J, _⟩ := O.look
  obtain ⟨m, hF⟩ := I.fr
  refine PySem.W.len_K hF I.ok.mod.kin J hs hf (thn (runAt (us := [.ref a]) (vs := [.ref a]) F hr.in1 rfl I (.cons rfl .nil) q) fun r s' z => ?_)
  obtain ⟨z, H', I', rz, n, ez, h0, h1, qb⟩ := z
  subst ez
  obtain ⟨t, rfl⟩ := rz
  exact ⟨⟨h0, h1⟩, .int n, H', I'.tok _, ⟨_, rfl⟩, qb⟩
/-! ### == and != -/
theorem slot_ne : Slot "object" "__ne__" "object.__ne__" :=
  .of (owner := "object") (n := "__ne__") (by rw [typeLookup_type, builtinLookup_eq_fast]; kernel_rfl) (by decide +kernel) (by decide +kernel) (by decide +kernel) (by first | exact .inl (by decide +kernel) | exact .inr (by decide +kernel)) (by rw [isSubtype_type]; kernel_rfl)
/-- what a class with an own __eq__ (and no own __ne__) has -/
structure EqC (K : PySem.W.Frag) (g C : Addr) : Prop where
  eq : PySem.W.findIn K (.ref C) "__eq__" = some (some (.ref g))
  ne : PySem.W.findIn K (.ref C) "__ne__" = some (some (.builtin "object.__ne__"))
  ob : PySem.W.mroIn K C (.type "object") = some true
theorem tryEq {A : Around} {a b C : Addr} {ox : Obj} {od : Option Obj} {Q : Option Value → Shared → Prop} {E : Value → Shared → Prop} (X0 : X.K.In s.heap) (J : PySem.W.InstAt s.heap a ox C od) (c : EqC X.K g C) (hf : PySem.W.isFn X.K (.ref g) = true)
    (h : wpAny (model X.prog X.w) A (call (.ref g) [.ref a, .ref b]) (fun v s' => ∃ b, v = .bool b ∧ Q (some (.bool b)) s') E s) : wpAny (model X.prog X.w) A (tryCompare (.ref a) "__eq__" (.ref b)) Q E s := by
  unfold tryCompare
  refine wpAny_bind (PySem.W.ifBound_K X0 J c.eq hf (wpAny_mono h (fun v s' hv => ?_) fun _ _ e => e))
  obtain ⟨b, rfl, q⟩ := hv
  exact wpAny_pure q
theorem objNe_entry {A : Around} {a b C : Addr} {ox : Obj} {od : Option Obj} {Q : PySem.Fin → Shared → Prop} {E : Value → Shared → Prop} (hu : A.units < cLine) (X0 : X.K.In s.heap) (J : PySem.W.InstAt s.heap a ox C od) (c : EqC X.K g C) (hf : PySem.W.isFn X.K (.ref g) = true)
    (h : wpAny (model X.prog X.w) A (call (.ref g) [.ref a, .ref b]) (fun v s' => ∃ b, v = .bool b ∧ Q (.done (.ret (.bool (!b)))) s') E s) : wpAny (model X.prog X.w) A (Builtin.«object.__ne__» ⟨[.ref a, .ref b], []⟩) Q E s := by
  unfold Builtin.«object.__ne__»
  obtain ⟨hp, gs, d, t, os⟩ := s
  repeat (first
    | with_reducible refine wpAny_cRoomFor hu ?_
    | (refine wpAny_bind (m := callSpecialIfBound? (.ref a) (Str.ofString "__eq__") [.ref b])
        (PySem.W.ifBound_K X0 J c.eq hf (wpAny_mono h (fun r s' hr => by
          obtain ⟨b, rfl, hq⟩ := hr
          repeat (first | exact hq | exact wpAny_pure hq | exact wpAny_truthy_bool hq | (refine wpAny_bind (m := truthy (.bool _)) (wpAny_truthy_bool ?_)) | wp_step)) fun _ _ e => e)))
    | wp_step)
theorem tryNe {A : Around} {a b C : Addr} {ox : Obj} {od : Option Obj} {Q : Option Value → Shared → Prop} {E : Value → Shared → Prop} (hu : A.units + 1 < cLine) (X0 : X.K.In s.heap) (J : PySem.W.InstAt s.heap a ox C od) (c : EqC X.K g C) (hf : PySem.W.isFn X.K (.ref g) = true)
    (h : wpAny (model X.prog X.w) A.in1 (call (.ref g) [.ref a, .ref b]) (fun v s' => ∃ b, v = .bool b ∧ Q (some (.bool (!b))) s') E s) : wpAny (model X.prog X.w) A (tryCompare (.ref a) "__ne__" (.ref b)) Q E s := by
  have L := slot_ne.bind (.ref a)
  have sub : PySem.W.Looks (model X.prog X.w) s.heap (isInstance (.ref a) (.type "object")) true := J.type.andThen (PySem.W.looks_mroIn X0 c.ob)
  have ab : wpAny (model X.prog X.w) A (call (.builtin "object.__ne__") [.ref a, .ref b]) (fun v s' => ∃ b, v = .bool b ∧ Q (some (.bool b)) s') E s := by
    refine wpAny_call (codeAny_call_builtin slot_ne.plain F.cmpEntry_ne (PySem.W.check_slot F.cmpKind_ne F.cmpSplit_ne sub (F.cmpArgs_ne _ _) ?_))
    refine objNe_entry (A := A.in1) hu X0 J c hf (wpAny_mono h (fun v s' hv => ?_) fun _ _ e => e)
    obtain ⟨b, rfl, q⟩ := hv
    exact ⟨b, rfl, ⟨_, rfl, q⟩⟩
  unfold tryCompare
  refine wpAny_bind ?_
  simp only [callSpecialIfBound?, bindSpecialIfBound?]
  refine wpAny_holding (wpAny_bind (wpAny_bind (wpAny_bind (J.type.here ((PySem.W.looks_findIn X0 c.ne).here ?_)))))
  refine wpAny_bind (wpAny_askSetting (wpAny_ite ?_))
  have fin : wpAny (model X.prog X.w) A (call (.builtin "object.__ne__") ([.ref a] ++ [.ref b]) >>= fun v => pure (some v)) (fun v s' => wpAny (model X.prog X.w) A (match v with
      | some .notImplemented | none => pure none
      | some v => pure (some v)) Q E s') E s := wpAny_bind (wpAny_mono ab (fun v s' h' => by
        obtain ⟨b, rfl, q⟩ := h'
        exact wpAny_pure (wpAny_pure q)) fun _ _ h' => h')
  split
  · refine wpAny_bind ?_
    rw [L]
    exact wpAny_pure (wpAny_pure (by exact fin))
  · refine wpAny_tryCatch (wpAny_bind ?_)
    rw [L]
    exact wpAny_pure (wpAny_pure (by exact fin))
def rCmpI (K : PySem.W.Frag) (g : Addr) (sp : Sp) (neg : Bool) : R2 := fun x y H Q => ∃ a b C D dx dy fs gs, x = .ref a ∧ y = .ref b ∧ H a = some (.ins C dx fs) ∧ H b = some (.ins D dy gs) ∧ EqC K g C ∧ EqC K g D ∧
  (C = D ∨ ∃ r, PySem.W.subIn K (.ref D) (.ref C) = some r) ∧ sp [x, y] H (fun z H' => ∃ b, z = .bl b ∧ Q (.bl (if neg then !b else b)) H') E0 ∧ sp [y, x] H (fun z H' => ∃ b, z = .bl b ∧ Q (.bl (if neg then !b else b)) H') E0
theorem rich_own {A : Around} {op : CmpOp} {a b C D : Addr} {ox oy : Obj} {od oe : Option Obj} {Q : Value → Shared → Prop} {E : Value → Shared → Prop} (hu : A.units < cLine) (X0 : X.K.In s.heap) (J : PySem.W.InstAt s.heap a ox C od) (J' : PySem.W.InstAt s.heap b oy D oe)
    (hs : C = D ∨ ∃ r, PySem.W.subIn X.K (.ref D) (.ref C) = some r)
    (h1 : wpAny (model X.prog X.w) A (tryCompare (.ref a) (cmpInfo op).2.1 (.ref b)) (fun r s' => ∃ v, r = some v ∧ Q v s') E s) (h2 : wpAny (model X.prog X.w) A (tryCompare (.ref b) (cmpInfo op).2.2 (.ref a)) (fun r s' => ∃ v, r = some v ∧ Q v s') E s) :
    wpAny (model X.prog X.w) A (richCompare op (.ref a) (.ref b)) Q E s := by
  unfold richCompare
  simp only [oneThing_ref]
  refine wpAny_holding (wpAny_bind (wpAny_cRoomFor hu ?_))
  refine wpAny_bind (J.type.here (wpAny_bind (J'.type.here ?_)))
  have left : wpAny (model X.prog X.w) A (tryCompare (.ref a) (cmpInfo op).2.1 (.ref b)) (fun r s' => ∃ v, r = some v ∧ Q v s') E s := h1
  by_cases hCD : C = D
  · subst hCD
    rw [show (Value.ref C != Value.ref C) = false from by simp]
    simp only [Bool.false_eq_true, if_false]
    refine wpAny_bind (wpAny_pure ?_)
    simp only [Bool.false_eq_true, if_false]
    refine wpAny_bind (wpAny_mono left (fun r s' z => ?_) fun _ _ e => e)
    obtain ⟨v, rfl, hq⟩ := z
    exact wpAny_pure hq
  · obtain ⟨r, e⟩ := hs.resolve_left hCD
    rw [show (Value.ref C != Value.ref D) = true from by simp [hCD]]
    simp only [if_true]
    refine wpAny_bind ((PySem.W.looks_subIn X0 e).here ?_)
    cases r with
    | false =>
      simp only [Bool.false_eq_true, if_false]
      refine wpAny_bind (wpAny_mono left (fun r s' z => ?_) fun _ _ e => e)
      obtain ⟨v, rfl, hq⟩ := z
      exact wpAny_pure hq
    | true =>
      simp only [if_true]
      refine wpAny_bind (wpAny_mono h2 (fun r s' z => ?_) fun _ _ e => e)
      obtain ⟨v, rfl, hq⟩ := z
      first
        | exact wpAny_bind (wpAny_rule (wpAny_pure hq))
        | exact wpAny_pure hq
theorem op_eqI (hf : PySem.W.isFn X.K (.ref g) = true) (F : FnR X.prog X.w X.K X.mg X.base CX0 k g sp) (hr : Room k X.A) : OpR X (compareOp .Eq) (rCmpI X.K g sp false) := by
  intro pins s σ H x y v u Q I rx ry h
  obtain ⟨a, b, C, D, dx, dy, fs, gs, rfl, rfl, ha, hb, c, d, hs, q1, q2⟩ := h
  cases rx
  cases ry
  obtain ⟨_, O, _⟩ := ins_get I.hok ha
  obtain ⟨od, J, _⟩ := O.look
  obtain ⟨_, O', _⟩ := ins_get I.hok hb
  obtain ⟨od', J', _⟩ := O'.look
  have fin : ∀ (r : Value) (s' : Shared), EP X pins σ (fun z H' => ∃ b, z = .bl b ∧ Q (.bl (if false then !b else b)) H') r s' → ∃ b, r = .bool b ∧ ∃ v, some (Value.bool b) = some v ∧ EP X pins σ Q v s' := fun r s' z => by
    obtain ⟨z, H', I', rz, b, ez, qb⟩ := z
    subst ez
    cases rz
    exact ⟨b, rfl, _, rfl, .bl b, H', I', rfl, qb⟩
  show wpAny (model X.prog X.w) X.A (richCompare .Eq (.ref a) (.ref b)) (EP X pins σ Q) X.xe s
  refine rich_own hr.units0 I.kIn J J' hs ?_ ?_
  · exact tryEq I.kIn J c hf (wpAny_mono (runAt (us := [.ref a, .ref b]) (vs := [.ref a, .ref b]) F hr rfl I (.cons rfl (.cons rfl .nil)) q1) fin fun _ _ e => e)
  · exact tryEq I.kIn J' d hf (wpAny_mono (runAt (us := [.ref b, .ref a]) (vs := [.ref b, .ref a]) F hr rfl I (.cons rfl (.cons rfl .nil)) q2) fin fun _ _ e => e)
theorem op_neI (hf : PySem.W.isFn X.K (.ref g) = true) (F : FnR X.prog X.w X.K X.mg X.base CX0 k g sp) (hr : Room (k + 1) X.A) : OpR X (compareOp .NotEq) (rCmpI X.K g sp true) := by
  intro pins s σ H x y v u Q I rx ry h
  obtain ⟨a, b, C, D, dx, dy, fs, gs, rfl, rfl, ha, hb, c, d, hs, q1, q2⟩ := h
  cases rx
  cases ry
  obtain ⟨_, O, _⟩ := ins_get I.hok ha
  obtain ⟨od, J, _⟩ := O.look
  obtain ⟨_, O', _⟩ := ins_get I.hok hb
  obtain ⟨od', J', _⟩ := O'.look
  have fin : ∀ (r : Value) (s' : Shared), EP X pins σ (fun z H' => ∃ b, z = .bl b ∧ Q (.bl (if true then !b else b)) H') r s' → ∃ b, r = .bool b ∧ ∃ v, some (Value.bool (!b)) = some v ∧ EP X pins σ Q v s' := fun r s' z => by
    obtain ⟨z, H', I', rz, b, ez, qb⟩ := z
    subst ez
    cases rz
    exact ⟨b, rfl, _, rfl, .bl (!b), H', I', rfl, qb⟩
  show wpAny (model X.prog X.w) X.A (richCompare .NotEq (.ref a) (.ref b)) (EP X pins σ Q) X.xe s
  have hu := hr.units
  refine rich_own hr.units0 I.kIn J J' hs ?_ ?_
  · exact tryNe (by omega) I.kIn J c hf (wpAny_mono (runAt (us := [.ref a, .ref b]) (vs := [.ref a, .ref b]) F hr.in1 rfl I (.cons rfl (.cons rfl .nil)) q1) fin fun _ _ e => e)
  · exact tryNe (by omega) I.kIn J' d hf (wpAny_mono (runAt (us := [.ref b, .ref a]) (vs := [.ref b, .ref a]) F hr.in1 rfl I (.cons rfl (.cons rfl .nil)) q2) fin fun _ _ e => e)
end
end Tw
namespace Tw
open PySem PySem.Spec PyProof.Rows L2
section
variable {α : Type} {prog : Program} {w : World} {A : Around} {E : Value → Shared → Prop} {s : Shared}
theorem raise_attr {msg : Str} {Q : α → Shared → Prop} (hh : A.handled = none)
    (h : ∀ h' tk e oe, (∀ b o, s.heap.get? b = some o → h'.get? b = some o) → h'.get? e = some oe → oe.cls = .type "AttributeError" → E (.ref e) { s with heap := h', toks := tk }) (hm : msg.length ≤ sizeLine) :
    wpAny (model prog w) A (raiseErrorStr "AttributeError" msg : Sem α) Q E s := by
  unfold raiseErrorStr
  refine wpAny_bind (wpAny_mkStr (wpAny_bind ?_) hm)
  unfold newExc newTuple
  refine wpAny_bind (wpAny_newObj_type ?_ (by size_fits))
  refine wpAny_bind (m := firstArgMember _ _) (wpAny_of_eq (a := Value.none) (by simp only [firstArgMember, attrError_no_first]; rfl) ?_)
  rw [ownMembersOf_AttributeError]
  refine wpAny_newObj_type ?_ (by size_fits)
  refine wpAny_raiseNew_none hh ?_
  refine h _ _ _ _ (fun b ob hb => Heap.get?_push_of_some _ (Heap.get?_push_of_some _ hb)) (Heap.get?_push_size _ rfl) rfl
end
/-- the class at D has no attribute of that name, nor has type; its own name is short -/
def missB (K : PySem.W.Frag) (D : Addr) (name : Str) : Bool :=
  decide (PySem.W.nsIn K cStatics "thirdparty.any" = some none) && (decide (PySem.W.typeIn K (.ref D) = some (.type "type")) && (decide (PySem.W.findIn K (.ref D) name = some none) &&
    ((PySem.W.clsIn K D).any fun cd => decide (cd.name.cps.foldl (fun k c => k + (Str.utf8Of c).length) 0 ≤ 100) && decide (((s!"type object '{cd.name.toString}' has no attribute '" : Str) ++ name ++ "'").length ≤ 1000))))
section
variable {prog : Program} {w : World} {A : Around} {E : Value → Shared → Prop} {s : Shared} {K : PySem.W.Frag} {D : Addr} {name : Str}
theorem miss_cls {tk : Tok} {Q : Option Value → Shared → Prop} (X : K.In s.heap) (m : missB K D name = true) (hT : PySem.W.findIn K (.type "type") name = some none) (hh : A.handled = none)
    (h : ∀ h' tk, (∀ b o, s.heap.get? b = some o → h'.get? b = some o) → Q none { s with heap := h', toks := tk }) : wpAny (model prog w) A (getAttrBy? (.ref D) (.str name tk)) Q E s := by
  unfold missB at m
  simp only [Bool.and_eq_true, decide_eq_true_eq] at m
  obtain ⟨m1, m2, m3, m4⟩ := m
  cases hc : PySem.W.clsIn K D with
  | none => rw [hc] at m4; cases m4
  | some cd =>
    rw [hc] at m4
    have m5 : (decide (cd.name.cps.foldl (fun k c => k + (Str.utf8Of c).length) 0 ≤ 100) && decide (((s!"type object '{cd.name.toString}' has no attribute '" : Str) ++ name ++ "'").length ≤ 1000)) = true := m4
    simp only [Bool.and_eq_true, decide_eq_true_eq] at m5
    obtain ⟨m6, m7⟩ := m5
    have ho : PySem.W.Looks (model prog w) s.heap (opaqueClassAbove (.ref D)) none := PySem.W.looks_opaque X m1
    have ht : PySem.W.Looks (model prog w) s.heap (typeOf (.ref D)) (.type "type") := PySem.W.looks_typeIn X m2
    have hga : PySem.W.findIn K (.type "type") "__getattribute__" = some (some (.builtin "type.__getattribute__")) := PySem.W.type_tga
    have hb : PySem.W.Looks (model prog w) s.heap (hookBefore (.type "type")) none := PySem.W.looks_hook X rfl
    have hsub : isSubtype (.type "type") (.type "type") = pure true := by rw [isSubtype_type]; kernel_rfl
    unfold getAttrBy? getAttrBy
    refine wpAny_bind (wpAny_attempt (wpAny_holding (wpAny_bind (ht.here (wpAny_bind ((PySem.W.looks_findIn X hga).here ?_))))))
    dsimp only
    rw [show (onTheHeap (.type "type") && Value.builtin "type.__getattribute__" == Value.builtin "object.__getattribute__") = false from by decide +kernel, if_neg (by decide)]
    unfold getAttrByItsOwn
    refine wpAny_bind (hb.here (wpAny_bind (wpAny_attempt (wpAny_holding ?_))))
    unfold callGetattribute
    rw [show (false && onTheHeap (Value.builtin "type.__getattribute__")) = false from rfl, if_neg (by decide)]
    unfold boundAndCalled
    rw [PySem.W.KF.slot_tga.bind]
    refine wpAny_bind (wpAny_pure ?_)
    show wpAny _ _ (call (.builtin "type.__getattribute__") [.ref D, .str name tk]) _ _ _
    refine wpAny_call (codeAny_call_builtin PySem.W.KF.slot_tga.plain PySem.W.KF.entry_tga ?_)
    refine @PySem.W.check_slot (model prog w) _ _ s "type.__getattribute__" "type" "__getattribute__" (.ref D) [.str name tk] [] _ (by decide +kernel) (by decide +kernel) (ht.andThen (.of_pure hsub)) (PySem.W.KF.args_tga (.ref D) (.str name tk)) ?_
    unfold Builtin.«type.__getattribute__»
    refine wpAny_bind (wpAny_pure (wpAny_bind (ho.here (wpAny_bind (ht.here (wpAny_bind ((PySem.W.looks_findIn X hT).here ?_)))))))
    refine wpAny_bind (wpAny_pure (wpAny_bind ((PySem.W.looks_findIn X m3).here ?_)))
    refine wpAny_bind (wpAny_rule (wpAny_bind ?_))
    unfold typeNameCut
    refine wpAny_bind ((PySem.W.looks_clsIn X hc).here ?_)
    rw [if_pos m6]
    refine wpAny_pure ?_
    refine raise_attr hh (fun h' tk' e oe kp he hoe => ?_) (Nat.le_trans m7 (by rw [sizeLine_eq]; decide))
    show wpAny (model prog w) A _ _ _ _
    have hTe : Shared.TypeIs { s with heap := h', toks := tk' } (.ref e) "AttributeError" := ⟨oe, he, hoe⟩
    show wpAny (model prog w) A (getattributeRaised (.ref D) (.str name tk) (.type "type") (.ref e) none false false) _ _ _
    unfold getattributeRaised
    refine wpAny_bind (wpAny_isInstance hTe sub_AttributeError ?_)
    rw [if_pos rfl]
    have hgt : typeLookup (.type "type") "__getattr__" = pure none := by rw [typeLookup_type, builtinLookup_eq_fast]; kernel_rfl
    show wpAny (model prog w) A (hookBehind (.type "type") none >>= fun r => hookOrError (.ref D) (.str name tk) (.ref e) false false r) _ _ _
    unfold hookBehind
    rw [show onTheHeap (Value.type "type") = false from rfl, if_neg (by decide), hgt]
    refine wpAny_bind (wpAny_pure ?_)
    show wpAny (model prog w) A (attributeErrorLeaves (.ref D) (.str name tk) (.ref e) false false) _ _ _
    unfold attributeErrorLeaves
    refine wpAny_throw ?_
    refine wpAny_bind (wpAny_isInstance hTe sub_AttributeError ?_)
    rw [if_pos rfl]
    exact wpAny_pure (h h' tk' kp)
end
structure ShC (K : PySem.W.Frag) (g C : Addr) : Prop where
  first : PySem.W.selfFirst K C = true
  sh : PySem.W.findIn K (.ref C) (PySem.dunder "rshift") = some (some (.ref g))
  no : PySem.W.findIn K (.ref C) (dunderR "rshift") = some none
  ms : missB K C (dunderR "rshift") = true
theorem ShC.mro {K : PySem.W.Frag} {g C : Addr} (c : ShC K g C) : ∃ cd rest, PySem.W.clsIn K C = some cd ∧ cd.mro = .ref C :: rest := by
  obtain ⟨cd, hcd, hm⟩ := PySem.W.any_some c.first
  cases q : cd.mro with
  | nil => rw [q] at hm; cases hm
  | cons a r => rw [q] at hm; exact ⟨cd, r, hcd, by rw [List.head?_cons] at hm; cases (beq_iff_eq.mp hm); exact q⟩
theorem ShC.fills {K : PySem.W.Frag} {g C : Addr} {M : Model} {h : Heap} (c : ShC K g C) (X : K.In h) : PySem.W.Looks M h (fillsNumberSlot (.ref C) "rshift") true := by
  obtain ⟨cd, rest, h1, h2⟩ := c.mro
  exact PySem.W.fills_K X h1 h2 c.sh
theorem ShC.byName {K : PySem.W.Frag} {g C : Addr} {M : Model} {h : Heap} (c : ShC K g C) (X : K.In h) : PySem.W.Looks M h (numberSlotInPython (.ref C) "rshift") true := by
  intro A Q E s k q
  unfold numberSlotInPython
  refine wpAny_bind (PySem.W.looks_findIn X c.sh A _ E s k ?_)
  refine wpAny_bind (wpAny_pure ?_)
  refine wpAny_bind (PySem.W.looks_findIn X c.no A _ E s k ?_)
  refine wpAny_bind (wpAny_pure ?_)
  exact wpAny_pure q
theorem noType (K : PySem.W.Frag) : PySem.W.findIn K (.type "type") (dunderR "rshift") = some none := by kernel_rfl
section
variable {X : Cx} {k : Nat} {g : Addr} {sp : Sp}
theorem shift_same {prog : Program} {w : World} {A : Around} {E : Value → Shared → Prop} {s : Shared} {K : PySem.W.Frag} {a b C D : Addr} {ox oy : Obj} {od oe : Option Obj} {Q : Value → Shared → Prop} (X0 : K.In s.heap) (J : PySem.W.InstAt s.heap a ox C od) (J' : PySem.W.InstAt s.heap b oy D oe)
    (c : ShC K g C) (d : ShC K g D) (hs : C = D ∨ ∃ r, PySem.W.subIn K (.ref D) (.ref C) = some r) (hf : PySem.W.isFn K (.ref g) = true) (hh : A.handled = none)
    (h : ∀ h' tk, (∀ b o, s.heap.get? b = some o → h'.get? b = some o) → wpAny (model prog w) A (call (.ref g) [.ref a, .ref b]) (PySem.W.CmpBack Q) E { s with heap := h', toks := tk }) :
    wpAny (model prog w) A (binaryOp .RShift (.ref a) (.ref b)) Q E s := by
  have keepJ : ∀ h', (∀ b o, s.heap.get? b = some o → h'.get? b = some o) → PySem.W.InstAt h' a ox C od := fun h' kp => by
    obtain ⟨i1, i2, i3, i4⟩ := J
    refine ⟨kp _ _ i1, i2, i3, ?_⟩
    revert i4
    rcases ox with ⟨oc, odd, dt, sl⟩
    cases odd <;> cases od <;> intro i4 <;> first | exact i4 | exact kp _ _ i4
  have try1 : ∀ h' tk, (∀ b o, s.heap.get? b = some o → h'.get? b = some o) → wpAny (model prog w) A (tryMethod (.ref a) (PySem.dunder "rshift") (.ref b)) (fun r s' => ∃ v, r = some v ∧ Q v s') E { s with heap := h', toks := tk } := fun h' tk kp => by
    unfold tryMethod
    have J2 : PySem.W.InstAt h' a ox C od := keepJ h' kp
    refine wpAny_bind (PySem.W.special_fn (s := { s with heap := h', toks := tk }) (X0.keeps kp) J2 c.sh (beq_iff_eq.mp hf) (wpAny_mono (h h' tk kp) (fun v s' hv => ?_) fun _ _ e => e))
    cases v <;> first | exact hv.elim | exact wpAny_pure ⟨_, rfl, hv⟩
  unfold binaryOp
  refine wpAny_holding (wpAny_bind ?_)
  unfold binaryOp1
  refine wpAny_bind (J.type.here (wpAny_bind (J'.type.here (wpAny_bind ((c.fills X0).here ?_)))))
  by_cases hCD : C = D
  · subst hCD
    simp only [beq_self_eq_true, if_true]
    refine wpAny_bind (wpAny_pure ?_)
    simp only [Bool.and_false, Bool.false_eq_true, if_false, Bool.false_and]
    refine wpAny_bind (wpAny_pure ?_)
    simp only [Bool.false_eq_true, if_false]
    refine wpAny_bind (m := tryMethod (.ref a) _ (.ref b)) (wpAny_mono (try1 s.heap s.toks fun _ _ e => e) (fun r s' z => ?_) fun _ _ e => e)
    obtain ⟨v, rfl, q⟩ := z
    exact wpAny_pure (wpAny_pure q)
  · obtain ⟨r, e⟩ := hs.resolve_left hCD
    have hne : (Value.ref C == Value.ref D) = false := by simp [hCD]
    simp only [hne, Bool.false_eq_true, if_false]
    refine wpAny_bind ((d.fills X0).here ?_)
    simp only [Bool.and_true, if_true]
    refine wpAny_bind ((PySem.W.looks_subIn X0 e).here ?_)
    cases r with
    | false =>
      simp only [Bool.false_eq_true, if_false]
      rw [if_pos (by decide)]
      refine wpAny_bind ((c.byName X0).here ?_)
      simp only [if_true]
      refine wpAny_bind ((d.byName X0).here ?_)
      simp only [Bool.not_true, Bool.false_eq_true, if_false]
      refine wpAny_bind (m := tryMethod (.ref a) _ (.ref b)) (wpAny_mono (try1 s.heap s.toks fun _ _ e => e) (fun r s' z => ?_) fun _ _ e => e)
      obtain ⟨v, rfl, q⟩ := z
      exact wpAny_pure (wpAny_pure q)
    | true =>
      simp only [if_true]
      refine wpAny_bind ?_
      unfold reflectedDiffers
      refine wpAny_bind ((c.byName X0).here ?_)
      simp only [Bool.not_true, Bool.false_eq_true, if_false]
      refine wpAny_bind ((d.byName X0).here ?_)
      simp only [Bool.not_true, Bool.false_eq_true, if_false]
      refine wpAny_bind (wpAny_mkStr ?_ (by decide +kernel))
      refine wpAny_bind (miss_cls (s := { s with toks := s.toks + 1 }) X0 d.ms (noType K) hh fun h' tk kp => ?_)
      refine wpAny_pure ?_
      simp only [Bool.false_eq_true, if_false]
      rw [if_pos (by decide)]
      have X1 : K.In h' := X0.keeps kp
      refine wpAny_bind ((c.byName X1) _ _ _ _ (fun _ _ e => e) ?_)
      simp only [if_true]
      refine wpAny_bind ((d.byName X1) _ _ _ _ (fun _ _ e => e) ?_)
      simp only [Bool.not_true, Bool.false_eq_true, if_false]
      refine wpAny_bind (m := tryMethod (.ref a) _ (.ref b)) (wpAny_mono (try1 h' tk kp) (fun r s' z => ?_) fun _ _ e => e)
      obtain ⟨v, rfl, q⟩ := z
      exact wpAny_pure (wpAny_pure q)
/-- a >> b of two instances by an own __rshift__ -/
def rShiftI (K : PySem.W.Frag) (g : Addr) (sp : Sp) : R2 := fun x y H Q => ∃ a b C D dx dy fs gs, x = .ref a ∧ y = .ref b ∧ H a = some (.ins C dx fs) ∧ H b = some (.ins D dy gs) ∧ ShC K g C ∧ ShC K g D ∧
  (C = D ∨ ∃ r, PySem.W.subIn K (.ref D) (.ref C) = some r) ∧ sp [x, y] H Q E0
theorem op_shiftI (hf : PySem.W.isFn X.K (.ref g) = true) (F : FnR X.prog X.w X.K X.mg X.base CX0 k g sp) (hr : Room k X.A) : OpR X (binaryOp .RShift) (rShiftI X.K g sp) := by
  intro pins s σ H x y v u Q I rx ry h
  obtain ⟨a, b, C, D, dx, dy, fs, gs, rfl, rfl, ha, hb, c, d, hs, q⟩ := h
  cases rx
  cases ry
  obtain ⟨_, O, _⟩ := ins_get I.hok ha
  obtain ⟨od, J, _⟩ := O.look
  obtain ⟨_, O', _⟩ := ins_get I.hok hb
  obtain ⟨od', J', _⟩ := O'.look
  refine shift_same I.kIn J J' c d hs hf hr.hd fun h' tk kp => ?_
  have I' : Inv X pins σ H { s with heap := h', toks := tk } := I.kept (t' := tk) kp
  refine wpAny_mono (runAt (us := [.ref a, .ref b]) (vs := [.ref a, .ref b]) F hr rfl I' (.cons rfl (.cons rfl .nil)) q) (fun r s' z => ?_) fun _ _ e => e
  obtain ⟨z, H', I2, rz, qz⟩ := z
  have rz' := rz
  cases z with
  | non => cases rz; exact ⟨_, H', I2, rz', qz⟩
  | bl b => cases rz; exact ⟨_, H', I2, rz', qz⟩
  | int i => obtain ⟨t, rfl⟩ := rz; exact ⟨_, H', I2, rz', qz⟩
  | str x => obtain ⟨t, rfl⟩ := rz; exact ⟨_, H', I2, rz', qz⟩
  | byt x => obtain ⟨t, rfl⟩ := rz; exact ⟨_, H', I2, rz', qz⟩
  | flt x => obtain ⟨t, rfl⟩ := rz; exact ⟨_, H', I2, rz', qz⟩
  | ref a => cases rz; exact ⟨_, H', I2, rz', qz⟩
  | ty n => cases rz; exact ⟨_, H', I2, rz', qz⟩
end
end Tw
/-! a def of a class that says super().m(..): its cell, its frame, that statement -/
namespace Tw
open PySem PySem.Spec PyProof.Rows L2
theorem cells_app : ∀ (names : List (Str × NameKind)) (n : Nat) (acc : List (Str × Addr)), cellsFrom n names acc = cellsFrom n names [] ++ acc
  | [], _, _ => rfl
  | (x, k) :: r, n, acc => by
    unfold cellsFrom
    split
    · rw [cells_app r (n + 1) ((x, n) :: acc), cells_app r (n + 1) [(x, n)], List.append_assoc]
      rfl
    · exact cells_app r n acc
theorem look_app {α : Type} {x : Str} {v : α} : ∀ {l m : List (Str × α)}, l.lookup x = some v → (l ++ m).lookup x = some v
  | (y, u) :: r, m, h => by
    rw [List.cons_append, List.lookup_cons]
    rw [List.lookup_cons] at h
    cases e : x == y with
    | true => rw [e] at h; exact h
    | false => rw [e] at h; exact look_app h
theorem look_app_none {α : Type} {x : Str} : ∀ {l m : List (Str × α)}, l.lookup x = none → (l ++ m).lookup x = m.lookup x
  | [], m, _ => rfl
  | (y, u) :: r, m, h => by
    rw [List.cons_append, List.lookup_cons]
    rw [List.lookup_cons] at h
    cases e : x == y with
    | true => rw [e] at h; cases h
    | false => rw [e] at h; exact look_app_none h
section
variable {M : Model} {A : Around} {E : Value → Shared → Prop} {s₀ s : Shared} {m cm : Str → Option Value} {env : Env} {cs : List (Str × Addr)}
theorem stLC' {n : Str} {v : Value} {Q : Unit → Shared → Prop} (x : InCallC s₀ env.locals m cs cm s) (hk : env.scope.kind = .function) (hl : env.kindOf n = some .local)
    (h : ∀ s', InCallC s₀ env.locals (fun y => if y = n then some v else m y) cs cm s' → Q () s') : wpAny M A (storeName env n v) Q E s := by
  refine wpAny_storeName_local hl x.toInCall.ns (fun h' hn' hs' => h _ ⟨⟨?_, hn', fun b o e => ?_, x.toInCall.fresh⟩, fun k c hc => ?_, x.apart, x.above⟩) (by rw [hk]; rfl)
  · obtain ⟨h₁, tk, rfl⟩ := x.toInCall.same
    exact ⟨h', _, rfl⟩
  · exact hs'.extBut b o (Nat.ne_of_lt (Nat.lt_of_lt_of_le (Heap.lt_size e) x.toInCall.fresh)) (x.toInCall.keep b o e)
  · exact (x.cell k c hc).sameBut hs' (Nat.ne_of_gt (x.above k c (mem_of_lookup hc)))
theorem stCC' {n : Str} {c : Addr} {v : Value} {Q : Unit → Shared → Prop} (x : InCallC s₀ env.locals m cs cm s) (hk : env.scope.kind = .function) (hl : env.kindOf n = some .cell)
    (hc : cs.lookup n = some c) (hce : env.cells.lookup n = some c)
    (h : ∀ s', InCallC s₀ env.locals m cs (fun y => if y = n then some v else cm y) s' → Q () s') : wpAny M A (storeName env n v) Q E s := by
  have hLc := x.above n c (mem_of_lookup hc)
  refine wpAny_storeName_cell hk hl hce (x.cell n c hc) fun h' hc' hs' => h _ ⟨⟨?_, x.toInCall.ns.sameBut hs' (Nat.ne_of_lt hLc), fun b o e => ?_, x.toInCall.fresh⟩, fun k c' hk' => ?_, x.apart, x.above⟩
  · obtain ⟨h₁, tk, rfl⟩ := x.toInCall.same
    exact ⟨h', _, rfl⟩
  · exact hs'.extBut b o (Nat.ne_of_lt (Nat.lt_trans (Nat.lt_of_lt_of_le (Heap.lt_size e) x.toInCall.fresh) hLc)) (x.toInCall.keep b o e)
  · by_cases hkn : k = n
    · subst hkn
      rw [hc] at hk'; cases hk'
      simpa using hc'
    · rw [if_neg hkn]
      exact (x.cell k c' hk').sameBut hs' fun e => hkn (name_of_addr x.apart (mem_of_lookup hk') (e ▸ mem_of_lookup hc))
theorem bindParams' (agree : ∀ n c, cs.lookup n = some c → env.cells.lookup n = some c) (f : Str × Value → PUnit → Sem (ForInStep PUnit)) (hf : ∀ n v u, f (n, v) u = (do storeName env n v; pure (.yield ⟨⟩))) (hk : env.scope.kind = .function) :
    ∀ (binds : List (Str × Value)) (m cm : Str → Option Value) (s : Shared) (Q : PUnit → Shared → Prop), InCallC s₀ env.locals m cs cm s →
      (∀ x ∈ binds, env.kindOf x.1 = some .local ∨ (env.kindOf x.1 = some .cell ∧ (cs.lookup x.1).isSome = true)) →
      (∀ s', InCallC s₀ env.locals (bindL env.kindOf binds m) cs (bindC env.kindOf binds cm) s' → Q ⟨⟩ s') → wpAny M A (forIn binds ⟨⟩ f) Q E s
  | [], m, cm, s, Q, x, _, h => by rw [List.forIn_nil]; exact wpAny_pure (h s x)
  | (n, v) :: r, m, cm, s, Q, x, hkind, h => by
    rw [List.forIn_cons, hf]
    have hr : ∀ y ∈ r, env.kindOf y.1 = some .local ∨ (env.kindOf y.1 = some .cell ∧ (cs.lookup y.1).isSome = true) := fun y hy => hkind y (List.mem_cons_of_mem _ hy)
    rcases hkind (n, v) List.mem_cons_self with hl | ⟨hl, hc⟩
    · refine wpAny_bind (wpAny_bind (stLC' x hk hl fun s' x' => wpAny_pure (bindParams' agree f hf hk r _ _ s' Q x' hr fun s'' x'' => h s'' ?_)))
      unfold bindL bindC; rw [if_pos hl, if_pos hl]; exact x''
    · obtain ⟨c, hc⟩ := Option.isSome_iff_exists.mp hc
      have hnl : ¬ env.kindOf n = some .local := by rw [hl]; decide
      refine wpAny_bind (wpAny_bind (stCC' x hk hl hc (agree _ _ hc) fun s' x' => wpAny_pure (bindParams' agree f hf hk r _ _ s' Q x' hr fun s'' x'' => h s'' ?_)))
      unfold bindL bindC; rw [if_neg hnl, if_neg hnl]; exact x''
end
section
variable {M : Model} {A : Around} {E : Value → Shared → Prop} {s : Shared}
theorem newEnv_clo {scope : Scope} {globals : Addr} {clo : List (Str × Addr)} {binds : List (Str × Value)} {qual : Str} {func : Option Addr} {code : Value} {builtins : Addr} {Q : Env → Shared → Prop}
    (hk : scope.kind = .function)
    (hkind : ∀ x ∈ binds, scope.names.lookup x.1 = some .local ∨ (scope.names.lookup x.1 = some .cell ∧ ((cellsFrom (s.heap.objs.size + 1) scope.names []).lookup x.1).isSome = true))
    (hQ : ∀ env, env = newEnv scope s.heap.objs.size globals (cellsFrom (s.heap.objs.size + 1) scope.names clo) qual func code none builtins →
      ∀ s', InCallC s env.locals (bindL env.kindOf binds fun _ => none) (cellsFrom (s.heap.objs.size + 1) scope.names []) (bindC env.kindOf binds fun _ => none) s' → Q env s') :
    wpAny M A (newFunctionEnv scope globals clo binds qual func code none builtins) Q E s := by
  simp only [newFunctionEnv, Option.isSome_none, Bool.false_eq_true, if_false]
  refine wpAny_bind (wpAny_alloc ?_)
  refine wpAny_bind (wpAny_layCells _ (fun name kind cells => by cases hkc : kind == NameKind.cell <;> simp [hkc]) _ _ _ _ ?_)
  have ok := cellsFrom_ok scope.names (s.heap.push { cls := .type "frame", data := .dict #[] }) (s.heap.objs.size + 1) [] ⟨fun _ _ hm => (nomatch hm), List.Pairwise.nil⟩ (by rw [Heap.size_push]; exact Nat.le_refl _)
  rw [Heap.size_push] at ok
  rw [show ({ s with heap := s.heap.push { cls := .type "frame", data := .dict #[] } } : Shared).heap.objs.size = s.heap.objs.size + 1 from Heap.size_push ..]
  refine wpAny_bind (bindParams' (s₀ := s) (cs := cellsFrom (s.heap.objs.size + 1) scope.names []) (env := newEnv scope s.heap.objs.size globals (cellsFrom (s.heap.objs.size + 1) scope.names clo) qual func code none builtins)
    (fun n c e => by
      show (cellsFrom (s.heap.objs.size + 1) scope.names clo).lookup n = some c
      rw [cells_app]
      exact look_app e) _ (fun _ _ _ => rfl) hk binds (fun _ => none) (fun _ => none) _ _
    ⟨⟨⟨_, _, rfl⟩, (Heap.Ns.new s.heap (.type "frame")).keeps (pushCells_keeps _ _), fun b o e => pushCells_keeps _ _ b o (Heap.get?_push_of_some _ e), Nat.le_refl _⟩,
      fun n c hc => (ok.empty n c (mem_of_lookup hc)).1, ok.apart, fun n c hm => (ok.empty n c hm).2⟩
    hkind fun s' x => wpAny_pure (hQ _ rfl s' x))
end
/-- the frame of a def that closes over __class__ alone -/
abbrev envS (qual : Str) (scope : Scope) (L a : Addr) (cd : Value) (cc : Addr) : Env :=
  newEnv scope L mainGlobals (cellsFrom (L + 1) scope.names [("__class__", cc)]) (qual ++ ".<locals>.") (some a) cd none builtinsNs
structure FnScopeS (N P : List Str) (sc : Scope) : Prop where
  kind : sc.kind = .function
  co : sc.isCoroutine = false
  gen : sc.isGenerator = false
  nd : N.Nodup
  pre : N.take P.length = P
  par : ∀ x ∈ P, sc.names.lookup x = some .local ∨ sc.names.lookup x = some .cell
  free : ∀ y ∈ sc.names, y.2 = .free → y.1 = "__class__"
  cl : sc.names.lookup ("__class__" : Str) = some .free
  uniq : ∀ y ∈ sc.names, y.1 = "__class__" → y.2 = .free
def cxS (P : Program) (w : World) (K : PySem.W.Frag) (mg : Str → Option Value) (base : Heap) (N : List Str) (qual : Str) (scope : Scope) (f : Addr) (cd : Value) (cc : Addr) (A : Around) (outer : List Env) (s : Shared) (H : Hp) : Cx where
  prog := P
  w := w
  K := K
  mg := mg
  base := base
  A := A.deeper (envS qual scope s.heap.objs.size f cd cc)
  N := N
  s_0 := s
  H_0 := H
  env := envS qual scope s.heap.objs.size f cd cc
  outer := outer
  stack := envS qual scope s.heap.objs.size f cd cc :: outer
  ex := []
  calm := true
  fn := fun x => scope.names.lookup x == some .cell
  pn := []
  xe := fun _ _ => False
theorem inv_startS {P : Program} {w : World} {K : PySem.W.Frag} {mg : Str → Option Value} {base : Heap} {N ps : List Str} {qual : Str} {scope : Scope} {f : Addr} {cd : Value} {cc D : Addr} {cl : Value} {cld : Option Addr} {csl : Array (Option Value)} {A : Around} {outer : List Env} {s s1 : Shared} {H : Hp} {us : List Value} {vs : List V}
    (S : FnScopeS N ps scope) (hd : A.handled = none) (e0 : Env0 P w K mg base A outer s H) (hl : vs.length = ps.length) (r : Vals vs us) (hcc : K.lookup cc = some ⟨cl, cld, .cell (some (.ref D)), csl⟩)
    (x : InCallC s s.heap.objs.size (bindL (envS qual scope s.heap.objs.size f cd cc).kindOf (ps.zip us) fun _ => none) (cellsFrom (s.heap.objs.size + 1) scope.names []) (bindC (envS qual scope s.heap.objs.size f cd cc).kindOf (ps.zip us) fun _ => none) s1) :
    Inv (cxS P w K mg base N qual scope f cd cc A outer s H) [] (start N vs) H s1 := by
  have hpl : ps.length ≤ N.length := by have := congrArg List.length S.pre; rw [List.length_take] at this; omega
  obtain ⟨h1, tk, rfl, hk⟩ := x.done
  have noA : ∀ b : Addr, b ∉ (cxS P w K mg base N qual scope f cd cc A outer s H).ex := fun b z => absurd (show b ∈ ([] : List Addr) from z) (by simp)
  have KX : K.In base := e0.mod.kin
  have ccb := e0.bs cc _ (KX _ _ hcc)
  have cclt : cc < s.heap.objs.size := Heap.lt_size ccb.1
  -- a cell of the frame is a new one, or the captured one
  have cells : ∀ y c, (envS qual scope s.heap.objs.size f cd cc).cells.lookup y = some c → (cellsFrom (s.heap.objs.size + 1) scope.names []).lookup y = some c ∨ (y = "__class__" ∧ c = cc) := fun y c e => by
    have e' : (cellsFrom (s.heap.objs.size + 1) scope.names [("__class__", cc)]).lookup y = some c := e
    rw [cells_app] at e'
    cases q : (cellsFrom (s.heap.objs.size + 1) scope.names []).lookup y with
    | some c' =>
      rw [look_app q] at e'
      exact .inl e'
    | none =>
      rw [look_app_none q, List.lookup_cons] at e'
      cases b : y == ("__class__" : Str) with
      | true => rw [b] at e'; exact .inr ⟨beq_iff_eq.mp b, (Option.some.inj e').symm⟩
      | false => rw [b] at e'; cases e'
  have above : ∀ y c, (cellsFrom (s.heap.objs.size + 1) scope.names []).lookup y = some c → s.heap.objs.size < c := fun y c e => x.above y c (PySem.mem_of_lookup e)
  have ccell : ∀ y c, (envS qual scope s.heap.objs.size f cd cc).cells.lookup y = some c → ∃ v, h1.IsCell c v := fun y c e => by
    rcases cells y c e with e | ⟨_, rfl⟩
    · exact ⟨_, x.cell y c e⟩
    · exact ⟨_, _, hk _ _ ccb.1, rfl⟩
  refine ⟨⟨e0.mod, S.kind, rfl, rfl, Nat.le_refl _, fun y z c h1 h2 => ?_, fun y hy => ?_, fun y c hf h => ?_, fun _ => hd, Around.frames_deeper e0.frames, .inr ⟨rfl, rfl⟩, fun b z => absurd z (noA b), e0.bs, e0.bsz, fun b _ _ => noA b, fun b z => absurd z (noA b), e0.funs, e0.frf⟩,
    rfl, e0.bare, Un.kept hk, ⟨_, x.toInCall.ns, fun i y v h1 h2 h3 => ?_⟩, ccell, e0.hok.fresh (Nat.le_refl _), fun y c h => ?_, fun p hp => absurd (show p ∈ ([] : List (Addr × Obj)) from hp) (by simp), e0.hok.kept hk, ?_⟩
  · rcases cells y c h1 with h1 | ⟨rfl, rfl⟩ <;> rcases cells z _ h2 with h2 | ⟨rfl, e⟩
    · exact name_of_addr x.apart (PySem.mem_of_lookup h1) (PySem.mem_of_lookup h2)
    · exact absurd (Nat.lt_trans (above _ _ h1) (by rw [e]; exact cclt)) (Nat.lt_irrefl _)
    · exact absurd (Nat.lt_trans (above _ _ h2) cclt) (Nat.lt_irrefl _)
    · rfl
  · have hy : scope.names.lookup y = some .cell ∨ scope.names.lookup y = some .free := hy
    show ∃ c, (cellsFrom (s.heap.objs.size + 1) scope.names [("__class__", cc)]).lookup y = some c
    rcases hy with hy | hy
    · obtain ⟨c, e⟩ := cell_has (n := s.heap.objs.size + 1) hy
      exact ⟨c, by rw [cells_app]; exact look_app e⟩
    · have ey := S.free _ (PySem.mem_of_lookup hy) rfl
      have ey : y = "__class__" := ey
      subst ey
      rw [cells_app]
      cases q : (cellsFrom (s.heap.objs.size + 1) scope.names []).lookup ("__class__" : Str) with
      | some c => exact ⟨c, look_app q⟩
      | none => exact ⟨cc, by rw [look_app_none q, List.lookup_cons_self]⟩
  · rcases cells y c h with h | ⟨rfl, rfl⟩
    · exact Nat.le_of_lt (above y c h)
    · have hf : (scope.names.lookup ("__class__" : Str) == some .cell) = true := hf
      rw [S.cl] at hf
      exact absurd hf (by decide)
  · have hi : i < vs.length := by
      unfold L2.start at h2
      by_cases hi : i < vs.length
      · exact hi
      · rw [List.getElem?_append_right (by simpa using hi)] at h2
        rw [List.getElem?_replicate] at h2
        split at h2 <;> cases h2
    have ha : vs[i]? = some v := by
      unfold L2.start at h2
      rw [List.getElem?_append_left (by simpa using hi), List.getElem?_map] at h2
      cases e : vs[i]? with
      | none => rw [e] at h2; cases h2
      | some a => rw [e] at h2; cases h2; rfl
    obtain ⟨u, hu, rv⟩ := r.get ha
    have hp : ps[i]? = some y := by
      rw [← S.pre, List.getElem?_take_of_lt (by omega)]; exact h1
    have ndP : ps.Nodup := by rw [← S.pre]; exact S.nd.sublist (List.take_sublist _ _)
    refine ⟨u, rv, ?_⟩
    rcases S.par y (List.mem_of_getElem? hp) with k | k
    · exact .inl ⟨k, bindL_get ndP hp hu k⟩
    · obtain ⟨c, e⟩ := cell_has (n := s.heap.objs.size + 1) k
      refine .inr ⟨.inl k, c, ?_, ?_⟩
      · show (cellsFrom (s.heap.objs.size + 1) scope.names [("__class__", cc)]).lookup y = some c
        rw [cells_app]; exact look_app e
      · have q := x.cell y c e
        rw [bindC_get ndP hp hu (by show scope.names.lookup y ≠ _; rw [k]; decide)] at q
        exact q
  · rcases cells y c h with h | ⟨_, rfl⟩
    · exact e0.hok.fresh (Nat.le_of_lt (above y c h))
    · exact ccb.2
  · unfold L2.start
    show _ = N.length
    rw [List.length_append, List.length_map, List.length_replicate]
    omega
/-! ### statements that know their own activation -/
structure PSAt (X : Cx) (c : Code) (st : Stmt) (t : TS) : Prop where
  run : ∀ (pins : List (Addr × Obj)) (s : Shared) (σ : L2.St) (H : Hp) (D : Ends), Inv X pins σ H s → t D σ H → PySem.wpAt (model X.prog X.w) X.A c (exec st X.env) (SP X pins D) X.xe s
structure PSsAt (X : Cx) (c : Code) (st : List Stmt) (t : TS) : Prop where
  run : ∀ (pins : List (Addr × Obj)) (s : Shared) (σ : L2.St) (H : Hp) (D : Ends), Inv X pins σ H s → t D σ H → PySem.wpAt (model X.prog X.w) X.A c (execs st X.env) (SP X pins D) X.xe s
section
variable {X : Cx} {c : Code} {st : Stmt} {rest : List Stmt} {t u : TS}
theorem PSAt.of (h : PS X st t) : PSAt X c st t := ⟨fun pins s σ H D I q => PySem.wpAt_of_wpAny (h.run pins s σ H D I q)⟩
theorem pssAt_cons (h1 : PSAt X c st t) (h2 : PSsAt X c rest u) : PSsAt X c (st :: rest) (tSeq t u) := by
  refine ⟨fun pins s σ H D I h => ?_⟩
  refine PySem.ks_wpAt_execs_cons (PySem.wpAt_mono (h1.run pins s σ H { D with nx := u D } I h) (fun f s1 q => ?_) fun _ _ x => x)
  cases f with
  | next =>
    obtain ⟨σ', H', I', q⟩ := q
    exact h2.run pins s1 σ' H' D I' q
  | ret v => exact q
  | brk => exact q
  | cont => exact q
theorem pssAt_rest (h : PSs X rest t) : PSsAt X c rest t := ⟨fun pins s σ H D I q => PySem.wpAt_of_wpAny (h.run pins s σ H D I q)⟩
end
/-- what of the text a class C, its class D of the super call and the def g behind it have -/
structure SupC (K : PySem.W.Frag) (C D g : Addr) (m : Str) : Prop where
  sub : PySem.W.mroIn K C (.ref D) = some true
  sup : PySem.W.ks_superIn K C D m = some (some (.ref g))
/-- what the def's own record has -/
structure SupF (P : Program) (K : PySem.W.Frag) (f cda cc D : Addr) (ps0 : Str) : Prop where
  fn : ∃ oc od fd osl ar, K.lookup f = some ⟨oc, od, .func fd, osl⟩ ∧ (fd.params.posonlyargs ++ fd.params.args).head? = some ar ∧ ar.arg = ps0
  code : ∃ ccl cdd vs ccs file tf, K.lookup cda = some ⟨ccl, cdd, .fields vs, ccs⟩ ∧ vs[2]? = some (.str file tf) ∧ ((P.main.file : Str) == file) = true
  cell : ∃ cl cld csl, K.lookup cc = some ⟨cl, cld, .cell (some (.ref D)), csl⟩
  cls : ∃ cd, PySem.W.clsIn K D = some cd
  nosup : PySem.W.nsIn K mainGlobals "super" = some none
  nothird : PySem.W.nsIn K cStatics "thirdparty.any" = some none
/-- super().m(e, ..) as a statement -/
def tSup (K : PySem.W.Frag) (D g : Addr) (m : Str) (sp : Sp) (t : TA) : TS := fun Dn σ H => ∃ x C dx fs, σ[0]? = some (some (.ref x)) ∧ H x = some (.ins C dx fs) ∧ SupC K C D g m ∧
  t σ H fun vs H1 => sp (.ref x :: vs) H1 (fun _ H2 => Dn.nx σ H2) E0
theorem bootSuper : bootBuiltins "super" = some (.type "super") := by first | rfl | kernel_rfl
section
variable {X : Cx} {k : Nat} {g f cda cc D : Addr} {sp : Sp} {m ps0 : Str} {e : Expr} {es : List Expr} {t : TA} {p0 p1 apos pos ppos : Pos} {body : List Stmt} {qual : Str} {scope : Scope} {s0 : Shared}
theorem ps_sup {pl : Sem Bool} (henv : X.env = envS qual scope s0.heap.objs.size f (.ref cda) cc) (SF : SupF X.prog X.K f cda cc D ps0) (F : FnR X.prog X.w X.K X.mg X.base CX0 k g sp) (hr : Room k X.A) (hmg : X.mg "super" = none)
    (hks : scope.names.lookup ("super" : Str) = some .globalImplicit) (hkc : scope.names.lookup ("__class__" : Str) = some .free) (hka : scope.names.lookup ps0 = some .local) (hN : X.N[0]? = some ps0) (hk : scope.kind = .function) (hnc : (cellsFrom (s0.heap.objs.size + 1) scope.names []).lookup ("__class__" : Str) = none)
    (hat : (m == ("__class__" : Str)) = false) (htop : (X.prog.main.scope.names.lookup ("super" : Str)).isSome = false) (ht : PySem.W.typeIn X.K (.ref g) = some (.type "function")) (hfi : PySem.W.fnIn X.K g = true)
    (ha : PA X (e :: es) t) (hi : interactive X.env = false)
    (hst : starEach (e :: es) X.env = (false, eval e X.env) :: starEach es X.env := by rfl) (hpl : (backTo pos (starEach es X.env)).any (·.1) = false := by rfl)
    (hsw : swapsWith (.Call (.Attribute (.Call (.Name "super" p0) [] [] p1) m apos) (e :: es) [] pos) none ppos.line X.env = pure false := by rfl)
    (he : eval (.Call (.Attribute (.Call (.Name "super" p0) [] [] p1) m apos) (e :: es) [] pos) X.env = (do
      let ov ← attributeBase (.Call (.Name "super" p0) [] [] p1) m X.env (eval (.Call (.Name "super" p0) [] [] p1) X.env)
      standAt apos.atName
      let (f, first) ← holding [ov] (getMethod ov m pl)
      callWith pos f first (backTo pos (starEach (e :: es) X.env)) []) := by rfl) :
    PSAt X (.func body X.env) (.Expr (.Call (.Attribute (.Call (.Name "super" p0) [] [] p1) m apos) (e :: es) [] pos) ppos) (tSup X.K D g m sp t) := by
  refine ⟨fun pins s σ H Dn I h => ?_⟩
  obtain ⟨x, C, dx, fs, hx, hH, sc, h⟩ := h
  obtain ⟨oc, od, fd, osl, ar, lf, hp, har⟩ := SF.fn
  obtain ⟨ccl, cdd, vs, ccs, file, tf, lcd, hvs, hfile⟩ := SF.code
  obtain ⟨cl, cld, csl, lcc⟩ := SF.cell
  obtain ⟨cdD, hD⟩ := SF.cls
  have X0 : X.K.In s.heap := I.kIn
  obtain ⟨_, O, _⟩ := ins_get I.hok hH
  obtain ⟨odx, J, _⟩ := O.look
  obtain ⟨mL, hn, hlo⟩ := id I.loc
  obtain ⟨u, ru, look⟩ := hlo 0 ps0 (.ref x) hN hx (by rw [henv]; exact .inl hka)
  cases ru
  have hmx : mL ps0 = some (.ref x) := by
    rcases look with ⟨_, q⟩ | ⟨q, _⟩
    · exact q
    · have q' : scope.names.lookup ps0 = some .cell ∨ scope.names.lookup ps0 = some .free := by rw [henv] at q; exact q
      rw [hka] at q'
      rcases q' with q' | q' <;> cases q'
  obtain ⟨oD, hD1, hD2⟩ : ∃ oD, s.heap.get? D = some oD ∧ oD.data = .cls cdD := by
    unfold PySem.W.clsIn at hD
    split at hD
    · rename_i c d cd' sl ho
      cases hD
      exact ⟨_, X0 _ _ ho, rfl⟩
    · cases hD
  obtain ⟨mb, hb1, hb2⟩ := I.mod.blt
  have hglob : s.heap.Ns mainGlobals X.mg := I.mod.glob.keeps I.bk
  have hblt : s.heap.Ns builtinsNs mb := hb1.keeps I.bk
  refine PySem.ks_wpAt_Expr_any (PySem.ks_wpAt_MethodCall (pl := pl) ?_ he) hi hsw
  have hcl : X.env.cells.lookup ("__class__" : Str) = some cc := by
    rw [henv]
    show (cellsFrom (s0.heap.objs.size + 1) scope.names [("__class__", cc)]).lookup ("__class__" : Str) = some cc
    rw [cells_app, look_app_none hnc, List.lookup_cons_self]
  have kg : X.env.globals = mainGlobals := I.ok.glob
  have kb : X.env.builtins = builtinsNs := I.ok.blt
  have kk : X.env.scope.kind = .function := I.ok.kind
  refine PySem.ks_wpAt_super_base (env := X.env) (by rw [henv]; exact hks) (by rw [henv]; exact hkc) hat (by rw [henv]; rfl) (X0 _ _ lf) rfl hp (by rw [henv]; rfl) (X0 _ _ lcd) rfl hvs hfile htop ?_
  refine PySem.W.ks_loadName_global kk (by rw [henv]; exact hks) (Calls.loadGlobal_builtin (by rw [kg]; exact hglob) hmg (by rw [kb]; exact hblt) ((hb2 "super" (by decide +kernel)).trans bootSuper) ⟨rfl, ?_⟩)
  refine wpAny_loadName_free kk (by rw [henv]; exact hkc) hcl ⟨_, X0 _ _ lcc, rfl⟩ ?_
  rw [har]
  refine wpAny_loadName_local kk (by rw [henv]; exact hka) hn hmx ?_
  obtain ⟨hh, gs, d, tk, os⟩ := s
  refine PySem.ks_wpAny_isType_cls hD1 hD2 ⟨rfl, ?_⟩
  refine PySem.ks_wpAny_call_super hD1 hD2 J.at_ J.cls (fun c e => ?_) (PySem.W.looks_mroIn X0 sc.sub) (fun h' e k => ?_)
  · have := J.no
    unfold PySem.W.notCls at this
    rw [e] at this
    exact Bool.noConfusion this
  · have I1 : Inv X pins σ H ⟨h', gs, d, tk, os⟩ := I.kept (t' := tk) k
    have X1 : X.K.In h' := X0.keeps k
    cases hc : PySem.W.clsIn X.K C with
    | none =>
      have q := sc.sup
      unfold PySem.W.ks_superIn at q
      rw [hc] at q
      cases q
    | some cd =>
      have q := sc.sup
      unfold PySem.W.ks_superIn at q
      rw [hc] at q
      obtain ⟨of, hof, hofc⟩ : ∃ of, h'.get? g = some of ∧ of.cls = .type "function" := by
        have ht' : (X.K.lookup g).map (·.cls) = some (.type "function") := ht
        cases z : X.K.lookup g with
        | none => rw [z] at ht'; cases ht'
        | some of => rw [z] at ht'; exact ⟨of, X1 _ _ z, Option.some.inj ht'⟩
      refine PySem.ks_wpAny_getMethod_super e (PySem.W.looks_opaque X1 SF.nothird) (l₀ := cd.mro) ?_ rfl X1 q hof hofc (PySem.W.ks_ne X0 J hc) hat ?_
      · exact fun A Q E s k q => wpAny_bind ((PySem.W.looks_clsIn X1 hc) A _ E s k (wpAny_pure q))
      · have I2 := ClX.met_new (g := g) (C := x) I1
        refine ClX.callwith_cm I2 (ClX.base_none I1 (Nat.le_refl _)) hfi (thn (ha.run pos _ _ σ H _ I2 h) fun us s3 ⟨vs, H2, I3, rv, q2⟩ => ⟨⟨ClX.pin_at I3, I3.kIn⟩, ?_⟩) hst hpl
        refine thn (ClX.run_cm F hr pass0 I3 rv q2) fun v s4 ⟨z, H4, I4, rz, q4⟩ => ⟨σ, H4, I4, q4⟩
end
/-- a def that closes over __class__, as the text has it -/
structure FunS (K : PySem.W.Frag) (x qual : Str) (st : Stmt) (f cda cc D : Addr) : Prop where
  ex : ∃ (oc : Value) (od : Option Addr) (kV doc pm : Value) (an : Option Addr) (ct : Value) (osl : Array (Option Value)),
    K.lookup f = some ⟨oc, od, .func (PySem.W.ksFn x qual (defArgs st) (defBody st) (defScope st) .none kV doc pm an (.ref cda) ct cc), osl⟩ ∧ PySem.W.codeIn K (.ref cda) qual = true
  cell : ∃ cl cld csl, K.lookup cc = some ⟨cl, cld, .cell (some (.ref D)), csl⟩
section
variable {P : Program} {w : World} {K : PySem.W.Frag} {mg : Str → Option Value} {base : Heap}
theorem okS {x qual : Str} {st : Stmt} {f cda cc D : Addr} {N ps : List Str} {k : Nat} {sp : Sp} (F : FunS K x qual st f cda cc D) (S : FnScopeS N ps (defScope st)) (len : ∀ vs H Q E, sp vs H Q E → vs.length = ps.length)
    (hb : ∀ (kV doc pm : Value) (an : Option Addr) (ct : Value) (us : List Value), us.length = ps.length → bindArgs (PySem.W.ksFn x qual (defArgs st) (defBody st) (defScope st) .none kV doc pm an (.ref cda) ct cc) ⟨us, []⟩ = pure (ps.zip us))
    (hbody : ∀ (A : Around) (outer : List Env) (s : Shared) (H : Hp) (vs : List V) (Q : VK) (E : XK), Room k (A.deeper (envS qual (defScope st) s.heap.objs.size f (.ref cda) cc)) → sp vs H Q E →
      ∃ t, PSsAt (cxS P w K mg base N qual (defScope st) f (.ref cda) cc A outer s H) (.func (defBody st) (envS qual (defScope st) s.heap.objs.size f (.ref cda) cc)) (defBody st) t ∧ t { nx := fun _ H' => Q .non H', rt := Q } (L2.start N vs) H) :
    FnR P w K mg base CX0 (k + 1) f sp := by
  intro A outer s H us vs Q E hr e0 r hsp
  obtain ⟨oc, od, kV, doc, pm, an, ct, osl, lk, hcd⟩ := F.ex
  obtain ⟨cl, cld, csl, lcc⟩ := F.cell
  have hl := len _ _ _ _ hsp
  have hlu : us.length = ps.length := by rw [← r.length]; exact hl
  have KX : K.In s.heap := e0.mod.kin.keeps fun b o e => (e0.bs b o e).1
  have lim : s.heap.NoLimit := e0.mod.nolimit.keeps fun b o e => (e0.bs b o e).1
  have hkind : ∀ y ∈ ps.zip us, (defScope st).names.lookup y.1 = some .local ∨ ((defScope st).names.lookup y.1 = some .cell ∧ ((cellsFrom (s.heap.objs.size + 1) (defScope st).names []).lookup y.1).isSome = true) := fun ⟨n, v⟩ hy => by
    rcases S.par n (List.of_mem_zip hy).1 with q | q
    · exact .inl q
    · exact .inr ⟨q, PySem.W.cellsFrom_some _ _ _ (.inl q)⟩
  refine codeAny_call_function hr.depth (KX _ _ lk) rfl S.co S.gen rfl (PySem.W.codeRec_of KX hcd) ?_
  rw [hb kV doc pm an ct us hlu]
  refine wpAny_pure (newEnv_clo S.kind hkind fun env he s1 x => ?_)
  subst he
  refine ⟨lim.keeps x.toInCall.keep, PySem.ks_codeAny_funcAt ?_⟩
  obtain ⟨t, ht, hq⟩ := hbody A outer s H vs Q E (hr.deeper _) hsp
  have I := inv_startS (P := P) (w := w) (mg := mg) (base := base) (outer := outer) S hr.hd e0 hl r lcc x
  refine PySem.wpAt_mono (ht.run [] s1 (L2.start N vs) H _ I hq) (fun fl s' hs => ?_) fun e s' hs => False.elim hs
  have fin : ∀ {σ' : L2.St} {H' : Hp} {v : V} {u : Value}, Inv (cxS P w K mg base N qual (defScope st) f (.ref cda) cc A outer s H) [] σ' H' s' → RelV v u → Q v H' → CE outer P w H s Q u s' :=
    fun {σ' H' v u} J rv q => ⟨v, H', J.os, J.bare, J.base, J.hok, rv, q⟩
  cases fl with
  | ret u =>
    obtain ⟨v, σ', H', J, rv, q⟩ := hs
    exact fin J rv q
  | next =>
    obtain ⟨σ', H', J, q⟩ := hs
    exact fin (v := V.non) (u := Value.none) J rfl q
  | brk =>
    obtain ⟨_, _, _, q⟩ := hs
    exact False.elim q
  | cont =>
    obtain ⟨_, _, _, q⟩ := hs
    exact False.elim q
end
end Tw
/-! the text by places, what the top has written -/
namespace Tw
open PySem PySem.Spec PyProof.Rows L2
def top (i : Nat) : Stmt := PySem.Challenge.pw_towgrove_k72_whole_many_groves_in_a_row.main.body.getD i (.Pass ⟨0, 0, 0, 0⟩)
abbrev s_gate_of : Stmt := top 10
abbrev N_gate_of : List Str := ["tree", "places", "place", "gaps", "best", "one"]
theorem sc_gate_of : FnScope N_gate_of ["tree", "places", "place"] (defScope s_gate_of) := ⟨rfl, rfl, rfl, by decide +kernel, rfl, by decide +kernel, by decide +kernel⟩
abbrev s_common : Stmt := top 11
abbrev N_common : List Str := ["one", "other", "place"]
theorem sc_common : FnScope N_common ["one", "other"] (defScope s_common) := ⟨rfl, rfl, rfl, by decide +kernel, rfl, by decide +kernel, by decide +kernel⟩
abbrev s_bridge_of : Stmt := top 12
abbrev N_bridge_of : List Str := ["tree", "one", "other", "near"]
theorem sc_bridge_of : FnScope N_bridge_of ["tree", "one", "other"] (defScope s_bridge_of) := ⟨rfl, rfl, rfl, by decide +kernel, rfl, by decide +kernel, by decide +kernel⟩
abbrev s_after : Stmt := top 13
abbrev N_after : List Str := ["tree", "one", "other", "both"]
theorem sc_after : FnScope N_after ["tree", "one", "other"] (defScope s_after) := ⟨rfl, rfl, rfl, by decide +kernel, rfl, by decide +kernel, by decide +kernel⟩
abbrev s_is_between : Stmt := top 15
abbrev N_is_between : List Str := ["tree", "one", "place", "other"]
theorem sc_is_between : FnScope N_is_between ["tree", "one", "place", "other"] (defScope s_is_between) := ⟨rfl, rfl, rfl, by decide +kernel, rfl, by decide +kernel, by decide +kernel⟩
abbrev s_need_tree : Stmt := top 16
abbrev N_need_tree : List Str := ["one", "other"]
theorem sc_need_tree : FnScope N_need_tree ["one", "other"] (defScope s_need_tree) := ⟨rfl, rfl, rfl, by decide +kernel, rfl, by decide +kernel, by decide +kernel⟩
abbrev s_need_some : Stmt := top 17
abbrev N_need_some : List Str := ["one", "other"]
theorem sc_need_some : FnScope N_need_some ["one", "other"] (defScope s_need_some) := ⟨rfl, rfl, rfl, by decide +kernel, rfl, by decide +kernel, by decide +kernel⟩
abbrev s_made : Stmt := top 20
abbrev N_made : List Str := ["tree", "places"]
theorem sc_made : FnScope N_made ["tree", "places"] (defScope s_made) := ⟨rfl, rfl, rfl, by decide +kernel, rfl, by decide +kernel, by decide +kernel⟩
abbrev s_within : Stmt := top 23
abbrev N_within : List Str := ["number", "length"]
theorem sc_within : FnScope N_within ["number", "length"] (defScope s_within) := ⟨rfl, rfl, rfl, by decide +kernel, rfl, by decide +kernel, by decide +kernel⟩
abbrev s_need_places_shapes : Stmt := top 25
abbrev N_need_places_shapes : List Str := ["tree", "places", "place"]
theorem sc_need_places_shapes : FnScope N_need_places_shapes ["tree", "places"] (defScope s_need_places_shapes) := ⟨rfl, rfl, rfl, by decide +kernel, rfl, by decide +kernel, by decide +kernel⟩
abbrev s_is_word : Stmt := top 33
abbrev N_is_word : List Str := ["value", "letter"]
theorem sc_is_word : FnScope N_is_word ["value"] (defScope s_is_word) := ⟨rfl, rfl, rfl, by decide +kernel, rfl, by decide +kernel, by decide +kernel⟩
abbrev s_is_strings : Stmt := top 34
abbrev N_is_strings : List Str := ["value", "many", "item"]
theorem sc_is_strings : FnScope N_is_strings ["value", "many"] (defScope s_is_strings) := ⟨rfl, rfl, rfl, by decide +kernel, rfl, by decide +kernel, by decide +kernel⟩
abbrev s_check_places : Stmt := top 35
abbrev N_check_places : List Str := ["places", "at", "place"]
theorem sc_check_places : FnScope N_check_places ["places"] (defScope s_check_places) := ⟨rfl, rfl, rfl, by decide +kernel, rfl, by decide +kernel, by decide +kernel⟩
abbrev s_check_edges : Stmt := top 36
abbrev N_check_edges : List Str := ["places", "edges", "at", "one", "other"]
theorem sc_check_edges : FnScope N_check_edges ["places", "edges"] (defScope s_check_edges) := ⟨rfl, rfl, rfl, by decide +kernel, rfl, by decide +kernel, by decide +kernel⟩
abbrev s_joined : Stmt := top 37
abbrev N_joined : List Str := ["groups", "one", "other", "first", "second", "place"]
theorem sc_joined : FnScope N_joined ["groups", "one", "other"] (defScope s_joined) := ⟨rfl, rfl, rfl, by decide +kernel, rfl, by decide +kernel, by decide +kernel⟩
abbrev s_check_tree : Stmt := top 38
abbrev N_check_tree : List Str := ["places", "edges", "groups", "at", "one", "other", "place", "edge"]
theorem sc_check_tree : FnScope N_check_tree ["places", "edges"] (defScope s_check_tree) := ⟨rfl, rfl, rfl, by decide +kernel, rfl, by decide +kernel, by decide +kernel⟩
abbrev s_gaps_from : Stmt := top 39
abbrev N_gaps_from : List Str := ["near", "start", "gaps", "waiting", "index", "here", "place"]
theorem sc_gaps_from : FnScope N_gaps_from ["near", "start"] (defScope s_gaps_from) := ⟨rfl, rfl, rfl, by decide +kernel, rfl, by decide +kernel, by decide +kernel⟩
abbrev s__law_box : Stmt := top 44
abbrev N__law_box : List Str := ["_law_script", "_law_base", "_law_seed", "_law_cell", "_law_great"]
theorem sc__law_box : FnScope N__law_box ["_law_script", "_law_base"] (defScope s__law_box) := ⟨rfl, rfl, rfl, by decide +kernel, rfl, by decide +kernel, by decide +kernel⟩
abbrev s__law_take : Stmt := top 45
abbrev N__law_take : List Str := ["_law_box_here", "_law_many", "_law_digit", "_law_one"]
theorem sc__law_take : FnScope N__law_take ["_law_box_here", "_law_many"] (defScope s__law_take) := ⟨rfl, rfl, rfl, by decide +kernel, rfl, by decide +kernel, by decide +kernel⟩
abbrev s__law_mixed : Stmt := top 46
abbrev N__law_mixed : List Str := ["_law_box_here", "_law_items", "_law_left", "_law_found", "_law_turn"]
theorem sc__law_mixed : FnScope N__law_mixed ["_law_box_here", "_law_items"] (defScope s__law_mixed) := ⟨rfl, rfl, rfl, by decide +kernel, rfl, by decide +kernel, by decide +kernel⟩
abbrev s__law_names : Stmt := top 47
abbrev N__law_names : List Str := ["_law_box_here", "_law_many", "_law_letters", "_law_words", "_law_stem", "_law_at", "_law_first", "_law_form", "_law_found", "_law_pairs", "_law_k", "_law_letter", "_law_long", "_law_ends", "_law_odd", "_law_some", "_law_word"]
theorem sc__law_names : FnScope N__law_names ["_law_box_here", "_law_many"] (defScope s__law_names) := ⟨rfl, rfl, rfl, by decide +kernel, rfl, by decide +kernel, by decide +kernel⟩
abbrev s__law_tree : Stmt := top 48
abbrev N__law_tree : List Str := ["_law_box_here", "_law_most", "_law_many", "_law_form", "_law_places", "_law_edges", "_law_k", "_law_above"]
theorem sc__law_tree : FnScope N__law_tree ["_law_box_here", "_law_most"] (defScope s__law_tree) := ⟨rfl, rfl, rfl, by decide +kernel, rfl, by decide +kernel, by decide +kernel⟩
abbrev s__law_near : Stmt := top 49
abbrev N__law_near : List Str := ["_law_places", "_law_edges", "_law_found", "_law_place", "_law_other"]
theorem sc__law_near : FnScope N__law_near ["_law_places", "_law_edges"] (defScope s__law_near) := ⟨rfl, rfl, rfl, by decide +kernel, rfl, by decide +kernel, by decide +kernel⟩
abbrev s__law_gaps : Stmt := top 50
abbrev N__law_gaps : List Str := ["_law_near_here", "_law_start", "_law_found", "_law_layer", "_law_later", "_law_place", "_law_other"]
theorem sc__law_gaps : FnScope N__law_gaps ["_law_near_here", "_law_start"] (defScope s__law_gaps) := ⟨rfl, rfl, rfl, by decide +kernel, rfl, by decide +kernel, by decide +kernel⟩
abbrev s__law_grove : Stmt := top 51
abbrev N__law_grove : List Str := ["_law_box_here", "_law_model", "_law_held", "_law_turn", "_law_border", "_law_place", "_law_other"]
theorem sc__law_grove : FnScope N__law_grove ["_law_box_here", "_law_model"] (defScope s__law_grove) := ⟨rfl, rfl, rfl, by decide +kernel, rfl, by decide +kernel, by decide +kernel⟩
abbrev s__law_size : Stmt := top 52
abbrev N__law_size : List Str := ["_law_box_here"]
theorem sc__law_size : FnScope N__law_size ["_law_box_here"] (defScope s__law_size) := ⟨rfl, rfl, rfl, by decide +kernel, rfl, by decide +kernel, by decide +kernel⟩
abbrev s__law_ground : Stmt := top 53
abbrev N__law_ground : List Str := ["_law_box_here", "_law_most", "_law_places", "_law_edges", "_law_near_here", "_law_gaps_here", "_law_place"]
theorem sc__law_ground : FnScope N__law_ground ["_law_box_here", "_law_most"] (defScope s__law_ground) := ⟨rfl, rfl, rfl, by decide +kernel, rfl, by decide +kernel, by decide +kernel⟩
abbrev s__law_shape : Stmt := top 54
abbrev N__law_shape : List Str := ["_law_box_here", "_law_model", "_law_tree_here", "_law_places", "_law_form", "_law_one", "_law_other"]
theorem sc__law_shape : FnScope N__law_shape ["_law_box_here", "_law_model", "_law_tree_here"] (defScope s__law_shape) := ⟨rfl, rfl, rfl, by decide +kernel, rfl, by decide +kernel, by decide +kernel⟩
abbrev s__law_composed : Stmt := top 55
abbrev N__law_composed : List Str := ["_law_groves", "_law_found", "_law_grove_here"]
theorem sc__law_composed : FnScope N__law_composed ["_law_groves"] (defScope s__law_composed) := ⟨rfl, rfl, rfl, by decide +kernel, rfl, by decide +kernel, by decide +kernel⟩
abbrev s__law_bracketed : Stmt := top 56
abbrev N__law_bracketed : List Str := ["_law_box_here", "_law_groves", "_law_left", "_law_k"]
theorem sc__law_bracketed : FnScope N__law_bracketed ["_law_box_here", "_law_groves"] (defScope s__law_bracketed) := ⟨rfl, rfl, rfl, by decide +kernel, rfl, by decide +kernel, by decide +kernel⟩
abbrev s__law_row_right : Stmt := top 57
abbrev N__law_row_right : List Str := ["_law_box_here", "_law_model", "_law_groves", "_law_whole_row", "_law_place", "_law_here", "_law_grove_here", "_law_late", "_law_alone", "_law_k", "_law_other"]
theorem sc__law_row_right : FnScope N__law_row_right ["_law_box_here", "_law_model", "_law_groves"] (defScope s__law_row_right) := ⟨rfl, rfl, rfl, by decide +kernel, rfl, by decide +kernel, by decide +kernel⟩
abbrev s_law : Stmt := top 58
abbrev N_law : List Str := ["_law_script", "_law_box_here", "_law_turn", "_law_model", "_law_tree_here", "_law_groves", "_law_one", "_law_other", "_law_sources", "_law_more", "_law_place"]
theorem sc_law : FnScope N_law ["_law_script"] (defScope s_law) := ⟨rfl, rfl, rfl, by decide +kernel, rfl, by decide +kernel, by decide +kernel⟩
abbrev s_GroveX_initX : Stmt := inClass (top 18) 0
abbrev N_GroveX_initX : List Str := ["self", "tree", "places", "place", "own", "other"]
theorem sc_GroveX_initX : FnScope N_GroveX_initX ["self", "tree", "places"] (defScope s_GroveX_initX) := ⟨rfl, rfl, rfl, by decide +kernel, rfl, by decide +kernel, by decide +kernel⟩
abbrev s_GroveX_lenX : Stmt := inClass (top 18) 3
abbrev N_GroveX_lenX : List Str := ["self"]
theorem sc_GroveX_lenX : FnScope N_GroveX_lenX ["self"] (defScope s_GroveX_lenX) := ⟨rfl, rfl, rfl, by decide +kernel, rfl, by decide +kernel, by decide +kernel⟩
abbrev s_GroveX_containsX : Stmt := inClass (top 18) 5
abbrev N_GroveX_containsX : List Str := ["self", "value"]
theorem sc_GroveX_containsX : FnScope N_GroveX_containsX ["self", "value"] (defScope s_GroveX_containsX) := ⟨rfl, rfl, rfl, by decide +kernel, rfl, by decide +kernel, by decide +kernel⟩
abbrev s_GroveX_eqX : Stmt := inClass (top 18) 6
abbrev N_GroveX_eqX : List Str := ["self", "other"]
theorem sc_GroveX_eqX : FnScope N_GroveX_eqX ["self", "other"] (defScope s_GroveX_eqX) := ⟨rfl, rfl, rfl, by decide +kernel, rfl, by decide +kernel, by decide +kernel⟩
abbrev s_GroveX_rshiftX : Stmt := inClass (top 18) 10
abbrev N_GroveX_rshiftX : List Str := ["self", "other"]
theorem sc_GroveX_rshiftX : FnScope N_GroveX_rshiftX ["self", "other"] (defScope s_GroveX_rshiftX) := ⟨rfl, rfl, rfl, by decide +kernel, rfl, by decide +kernel, by decide +kernel⟩
abbrev s_GroveX_callX : Stmt := inClass (top 18) 11
abbrev N_GroveX_callX : List Str := ["self", "place"]
theorem sc_GroveX_callX : FnScope N_GroveX_callX ["self", "place"] (defScope s_GroveX_callX) := ⟨rfl, rfl, rfl, by decide +kernel, rfl, by decide +kernel, by decide +kernel⟩
abbrev s_Grove_bridge : Stmt := inClass (top 18) 13
abbrev N_Grove_bridge : List Str := ["self", "other", "far", "near"]
theorem sc_Grove_bridge : FnScope N_Grove_bridge ["self", "other"] (defScope s_Grove_bridge) := ⟨rfl, rfl, rfl, by decide +kernel, rfl, by decide +kernel, by decide +kernel⟩
abbrev s_Grove_sources : Stmt := inClass (top 18) 14
abbrev N_Grove_sources : List Str := ["self", "other", "tree", "place"]
theorem sc_Grove_sources : FnScope N_Grove_sources ["self", "other"] (defScope s_Grove_sources) := ⟨rfl, rfl, rfl, by decide +kernel, rfl, by decide +kernel, by decide +kernel⟩
abbrev s_MadeX_initX : Stmt := inClass (top 19) 0
abbrev N_MadeX_initX : List Str := ["self", "tree", "places"]
theorem sc_MadeX_initX : FnScope N_MadeX_initX ["self", "tree", "places"] (defScope s_MadeX_initX) := ⟨rfl, rfl, rfl, by decide +kernel, rfl, by decide +kernel, by decide +kernel⟩
abbrev s_LengthX_initX : Stmt := inClass (top 22) 0
abbrev N_LengthX_initX : List Str := ["self", "number"]
theorem sc_LengthX_initX : FnScope N_LengthX_initX ["self", "number"] (defScope s_LengthX_initX) := ⟨rfl, rfl, rfl, by decide +kernel, rfl, by decide +kernel, by decide +kernel⟩
abbrev s_BallX_initX : Stmt := inClass (top 27) 0
abbrev N_BallX_initX : List Str := ["self", "tree", "centre", "radius", "limit", "gaps", "place"]
theorem sc_BallX_initX : FnScopeS N_BallX_initX ["self", "tree", "centre", "radius"] (defScope s_BallX_initX) := ⟨rfl, rfl, rfl, by decide +kernel, rfl, by decide +kernel, by decide +kernel, rfl, by decide +kernel⟩
abbrev s_BranchX_initX : Stmt := inClass (top 28) 0
abbrev N_BranchX_initX : List Str := ["self", "tree", "at", "away", "place"]
theorem sc_BranchX_initX : FnScopeS N_BranchX_initX ["self", "tree", "at", "away"] (defScope s_BranchX_initX) := ⟨rfl, rfl, rfl, by decide +kernel, rfl, by decide +kernel, by decide +kernel, rfl, by decide +kernel⟩
abbrev s_WayX_initX : Stmt := inClass (top 29) 0
abbrev N_WayX_initX : List Str := ["self", "tree", "one", "other", "place"]
theorem sc_WayX_initX : FnScopeS N_WayX_initX ["self", "tree", "one", "other"] (defScope s_WayX_initX) := ⟨rfl, rfl, rfl, by decide +kernel, rfl, by decide +kernel, by decide +kernel, rfl, by decide +kernel⟩
abbrev s_WholeX_initX : Stmt := inClass (top 30) 0
abbrev N_WholeX_initX : List Str := ["self", "tree"]
theorem sc_WholeX_initX : FnScopeS N_WholeX_initX ["self", "tree"] (defScope s_WholeX_initX) := ⟨rfl, rfl, rfl, by decide +kernel, rfl, by decide +kernel, by decide +kernel, rfl, by decide +kernel⟩
abbrev s_TreeX_initX : Stmt := inClass (top 42) 1
abbrev N_TreeX_initX : List Str := ["self", "places", "edges", "place", "ends", "one", "other", "end"]
theorem sc_TreeX_initX : FnScope N_TreeX_initX ["self", "places", "edges"] (defScope s_TreeX_initX) := ⟨rfl, rfl, rfl, by decide +kernel, rfl, by decide +kernel, by decide +kernel⟩
abbrev s_TreeX_containsX : Stmt := inClass (top 42) 8
abbrev N_TreeX_containsX : List Str := ["self", "value"]
theorem sc_TreeX_containsX : FnScope N_TreeX_containsX ["self", "value"] (defScope s_TreeX_containsX) := ⟨rfl, rfl, rfl, by decide +kernel, rfl, by decide +kernel, by decide +kernel⟩
abbrev s_TreeX_eqX : Stmt := inClass (top 42) 9
abbrev N_TreeX_eqX : List Str := ["self", "other"]
theorem sc_TreeX_eqX : FnScope N_TreeX_eqX ["self", "other"] (defScope s_TreeX_eqX) := ⟨rfl, rfl, rfl, by decide +kernel, rfl, by decide +kernel, by decide +kernel⟩
/-- where the classes and defs stand -/
structure Ads where
  c_Grove : Addr
  c_Made : Addr
  c_Ball : Addr
  c_Branch : Addr
  c_Way : Addr
  c_Whole : Addr
  c_Tree : Addr
  c_Length : Addr
  f_gate_of : Addr
  f_common : Addr
  f_bridge_of : Addr
  f_after : Addr
  f_is_between : Addr
  f_need_tree : Addr
  f_need_some : Addr
  f_made : Addr
  f_within : Addr
  f_need_places_shapes : Addr
  f_is_word : Addr
  f_is_strings : Addr
  f_check_places : Addr
  f_check_edges : Addr
  f_joined : Addr
  f_check_tree : Addr
  f_gaps_from : Addr
  f__law_box : Addr
  f__law_take : Addr
  f__law_mixed : Addr
  f__law_names : Addr
  f__law_tree : Addr
  f__law_near : Addr
  f__law_gaps : Addr
  f__law_grove : Addr
  f__law_size : Addr
  f__law_ground : Addr
  f__law_shape : Addr
  f__law_composed : Addr
  f__law_bracketed : Addr
  f__law_row_right : Addr
  f_law : Addr
  f_GroveX_initX : Addr
  f_GroveX_lenX : Addr
  f_GroveX_containsX : Addr
  f_GroveX_eqX : Addr
  f_GroveX_rshiftX : Addr
  f_GroveX_callX : Addr
  f_Grove_bridge : Addr
  f_Grove_sources : Addr
  f_MadeX_initX : Addr
  f_LengthX_initX : Addr
  f_BallX_initX : Addr
  f_BranchX_initX : Addr
  f_WayX_initX : Addr
  f_WholeX_initX : Addr
  f_TreeX_initX : Addr
  f_TreeX_containsX : Addr
  f_TreeX_eqX : Addr
  k_BallX_initX : Addr
  d_BallX_initX : Addr
  k_BranchX_initX : Addr
  d_BranchX_initX : Addr
  k_WayX_initX : Addr
  d_WayX_initX : Addr
  k_WholeX_initX : Addr
  d_WholeX_initX : Addr
/-- a class of groves -/
def GC (a : Ads) (C : Addr) : Prop := C = a.c_Grove ∨ C = a.c_Made ∨ C = a.c_Ball ∨ C = a.c_Branch ∨ C = a.c_Way ∨ C = a.c_Whole
/-- what isinstance asks of an instance's class -/
structure TyC (K : PySem.W.Frag) (C : Addr) : Prop where
  ha : PySem.W.findIn K (.ref C) "__class__" = some (some (.builtin "object.__class__"))
  hn : PySem.W.specialIn K (.builtin "object.__class__") "__get__" = some (some (.builtin "getset_descriptor.__get__"))
  htk : PySem.W.takesIn K (.builtin "object.__class__") = some true
  hm : PySem.W.mroIn K C (.type "object") = some true
/-- what the top has written -/
structure Txt (P : Program) (K : PySem.W.Frag) (mg : Str → Option Value) (a : Ads) : Prop where
  F_gate_of : ∃ fd, Fun K "gate_of" "gate_of" s_gate_of a.f_gate_of fd
  F_common : ∃ fd, Fun K "common" "common" s_common a.f_common fd
  F_bridge_of : ∃ fd, Fun K "bridge_of" "bridge_of" s_bridge_of a.f_bridge_of fd
  F_after : ∃ fd, Fun K "after" "after" s_after a.f_after fd
  F_is_between : ∃ fd, Fun K "is_between" "is_between" s_is_between a.f_is_between fd
  F_need_tree : ∃ fd, Fun K "need_tree" "need_tree" s_need_tree a.f_need_tree fd
  F_need_some : ∃ fd, Fun K "need_some" "need_some" s_need_some a.f_need_some fd
  F_made : ∃ fd, Fun K "made" "made" s_made a.f_made fd
  F_within : ∃ fd, Fun K "within" "within" s_within a.f_within fd
  F_need_places_shapes : ∃ fd, Fun K "need_places" "need_places" s_need_places_shapes a.f_need_places_shapes fd
  F_is_word : ∃ fd, Fun K "is_word" "is_word" s_is_word a.f_is_word fd
  F_is_strings : ∃ fd, Fun K "is_strings" "is_strings" s_is_strings a.f_is_strings fd
  F_check_places : ∃ fd, Fun K "check_places" "check_places" s_check_places a.f_check_places fd
  F_check_edges : ∃ fd, Fun K "check_edges" "check_edges" s_check_edges a.f_check_edges fd
  F_joined : ∃ fd, Fun K "joined" "joined" s_joined a.f_joined fd
  F_check_tree : ∃ fd, Fun K "check_tree" "check_tree" s_check_tree a.f_check_tree fd
  F_gaps_from : ∃ fd, Fun K "gaps_from" "gaps_from" s_gaps_from a.f_gaps_from fd
  F__law_box : ∃ fd, Fun K "_law_box" "_law_box" s__law_box a.f__law_box fd
  F__law_take : ∃ fd, Fun K "_law_take" "_law_take" s__law_take a.f__law_take fd
  F__law_mixed : ∃ fd, Fun K "_law_mixed" "_law_mixed" s__law_mixed a.f__law_mixed fd
  F__law_names : ∃ fd, Fun K "_law_names" "_law_names" s__law_names a.f__law_names fd
  F__law_tree : ∃ fd, Fun K "_law_tree" "_law_tree" s__law_tree a.f__law_tree fd
  F__law_near : ∃ fd, Fun K "_law_near" "_law_near" s__law_near a.f__law_near fd
  F__law_gaps : ∃ fd, Fun K "_law_gaps" "_law_gaps" s__law_gaps a.f__law_gaps fd
  F__law_grove : ∃ fd, Fun K "_law_grove" "_law_grove" s__law_grove a.f__law_grove fd
  F__law_size : ∃ fd, Fun K "_law_size" "_law_size" s__law_size a.f__law_size fd
  F__law_ground : ∃ fd, Fun K "_law_ground" "_law_ground" s__law_ground a.f__law_ground fd
  F__law_shape : ∃ fd, Fun K "_law_shape" "_law_shape" s__law_shape a.f__law_shape fd
  F__law_composed : ∃ fd, Fun K "_law_composed" "_law_composed" s__law_composed a.f__law_composed fd
  F__law_bracketed : ∃ fd, Fun K "_law_bracketed" "_law_bracketed" s__law_bracketed a.f__law_bracketed fd
  F__law_row_right : ∃ fd, Fun K "_law_row_right" "_law_row_right" s__law_row_right a.f__law_row_right fd
  F_law : ∃ fd, Fun K "law" "law" s_law a.f_law fd
  F_GroveX_initX : ∃ fd, Fun K "__init__" "Grove.__init__" s_GroveX_initX a.f_GroveX_initX fd
  F_GroveX_lenX : ∃ fd, Fun K "__len__" "Grove.__len__" s_GroveX_lenX a.f_GroveX_lenX fd
  F_GroveX_containsX : ∃ fd, Fun K "__contains__" "Grove.__contains__" s_GroveX_containsX a.f_GroveX_containsX fd
  F_GroveX_eqX : ∃ fd, Fun K "__eq__" "Grove.__eq__" s_GroveX_eqX a.f_GroveX_eqX fd
  F_GroveX_rshiftX : ∃ fd, Fun K "__rshift__" "Grove.__rshift__" s_GroveX_rshiftX a.f_GroveX_rshiftX fd
  F_GroveX_callX : ∃ fd, Fun K "__call__" "Grove.__call__" s_GroveX_callX a.f_GroveX_callX fd
  F_Grove_bridge : ∃ fd, Fun K "bridge" "Grove.bridge" s_Grove_bridge a.f_Grove_bridge fd
  F_Grove_sources : ∃ fd, Fun K "sources" "Grove.sources" s_Grove_sources a.f_Grove_sources fd
  F_MadeX_initX : ∃ fd, Fun K "__init__" "Made.__init__" s_MadeX_initX a.f_MadeX_initX fd
  F_LengthX_initX : ∃ fd, Fun K "__init__" "Length.__init__" s_LengthX_initX a.f_LengthX_initX fd
  F_BallX_initX : FunS K "__init__" "Ball.__init__" s_BallX_initX a.f_BallX_initX a.k_BallX_initX a.d_BallX_initX a.c_Ball
  SF_BallX_initX : SupF P K a.f_BallX_initX a.k_BallX_initX a.d_BallX_initX a.c_Ball "self"
  SC_BallX_initX : SupC K a.c_Ball a.c_Ball a.f_GroveX_initX "__init__"
  F_BranchX_initX : FunS K "__init__" "Branch.__init__" s_BranchX_initX a.f_BranchX_initX a.k_BranchX_initX a.d_BranchX_initX a.c_Branch
  SF_BranchX_initX : SupF P K a.f_BranchX_initX a.k_BranchX_initX a.d_BranchX_initX a.c_Branch "self"
  SC_BranchX_initX : SupC K a.c_Branch a.c_Branch a.f_GroveX_initX "__init__"
  F_WayX_initX : FunS K "__init__" "Way.__init__" s_WayX_initX a.f_WayX_initX a.k_WayX_initX a.d_WayX_initX a.c_Way
  SF_WayX_initX : SupF P K a.f_WayX_initX a.k_WayX_initX a.d_WayX_initX a.c_Way "self"
  SC_WayX_initX : SupC K a.c_Way a.c_Way a.f_GroveX_initX "__init__"
  F_WholeX_initX : FunS K "__init__" "Whole.__init__" s_WholeX_initX a.f_WholeX_initX a.k_WholeX_initX a.d_WholeX_initX a.c_Whole
  SF_WholeX_initX : SupF P K a.f_WholeX_initX a.k_WholeX_initX a.d_WholeX_initX a.c_Whole "self"
  SC_WholeX_initX : SupC K a.c_Whole a.c_Whole a.f_GroveX_initX "__init__"
  F_TreeX_initX : ∃ fd, Fun K "__init__" "Tree.__init__" s_TreeX_initX a.f_TreeX_initX fd
  F_TreeX_containsX : ∃ fd, Fun K "__contains__" "Tree.__contains__" s_TreeX_containsX a.f_TreeX_containsX fd
  F_TreeX_eqX : ∃ fd, Fun K "__eq__" "Tree.__eq__" s_TreeX_eqX a.f_TreeX_eqX fd
  g_gate_of : GFn K mg "gate_of" a.f_gate_of
  g_common : GFn K mg "common" a.f_common
  g_bridge_of : GFn K mg "bridge_of" a.f_bridge_of
  g_after : GFn K mg "after" a.f_after
  g_is_between : GFn K mg "is_between" a.f_is_between
  g_need_tree : GFn K mg "need_tree" a.f_need_tree
  g_need_some : GFn K mg "need_some" a.f_need_some
  g_made : GFn K mg "made" a.f_made
  g_within : GFn K mg "within" a.f_within
  g_need_places_shapes : GFn K mg "need_places_shapes" a.f_need_places_shapes
  g_is_word : GFn K mg "is_word" a.f_is_word
  g_is_strings : GFn K mg "is_strings" a.f_is_strings
  g_check_places : GFn K mg "check_places" a.f_check_places
  g_check_edges : GFn K mg "check_edges" a.f_check_edges
  g_joined : GFn K mg "joined" a.f_joined
  g_check_tree : GFn K mg "check_tree" a.f_check_tree
  g_gaps_from : GFn K mg "gaps_from" a.f_gaps_from
  g__law_box : GFn K mg "_law_box" a.f__law_box
  g__law_take : GFn K mg "_law_take" a.f__law_take
  g__law_mixed : GFn K mg "_law_mixed" a.f__law_mixed
  g__law_names : GFn K mg "_law_names" a.f__law_names
  g__law_tree : GFn K mg "_law_tree" a.f__law_tree
  g__law_near : GFn K mg "_law_near" a.f__law_near
  g__law_gaps : GFn K mg "_law_gaps" a.f__law_gaps
  g__law_grove : GFn K mg "_law_grove" a.f__law_grove
  g__law_size : GFn K mg "_law_size" a.f__law_size
  g__law_ground : GFn K mg "_law_ground" a.f__law_ground
  g__law_shape : GFn K mg "_law_shape" a.f__law_shape
  g__law_composed : GFn K mg "_law_composed" a.f__law_composed
  g__law_bracketed : GFn K mg "_law_bracketed" a.f__law_bracketed
  g__law_row_right : GFn K mg "_law_row_right" a.f__law_row_right
  g_law : GFn K mg "law" a.f_law
  mg_Grove : mg "Grove" = some (.ref a.c_Grove)
  cl_Grove : Cls K a.c_Grove
  mk_Grove : Mk K a.c_Grove a.f_GroveX_initX
  mg_Made : mg "Made" = some (.ref a.c_Made)
  cl_Made : Cls K a.c_Made
  mk_Made : Mk K a.c_Made a.f_MadeX_initX
  mg_Ball : mg "Ball" = some (.ref a.c_Ball)
  cl_Ball : Cls K a.c_Ball
  mk_Ball : Mk K a.c_Ball a.f_BallX_initX
  mg_Branch : mg "Branch" = some (.ref a.c_Branch)
  cl_Branch : Cls K a.c_Branch
  mk_Branch : Mk K a.c_Branch a.f_BranchX_initX
  mg_Way : mg "Way" = some (.ref a.c_Way)
  cl_Way : Cls K a.c_Way
  mk_Way : Mk K a.c_Way a.f_WayX_initX
  mg_Whole : mg "Whole" = some (.ref a.c_Whole)
  cl_Whole : Cls K a.c_Whole
  mk_Whole : Mk K a.c_Whole a.f_WholeX_initX
  mg_Tree : mg "Tree" = some (.ref a.c_Tree)
  cl_Tree : Cls K a.c_Tree
  mk_Tree : Mk K a.c_Tree a.f_TreeX_initX
  mg_Length : mg "Length" = some (.ref a.c_Length)
  cl_Length : Cls K a.c_Length
  mk_Length : Mk K a.c_Length a.f_LengthX_initX
  na_own_places : NoAttr K a.c_Tree "own_places"
  na_own_edges : NoAttr K a.c_Tree "own_edges"
  na_near : NoAttr K a.c_Tree "near"
  na_gaps : NoAttr K a.c_Tree "gaps"
  na_rank : NoAttr K a.c_Length "rank"
  na_size : NoAttr K a.c_Length "size"
  na_own_centre : NoAttr K a.c_Ball "own_centre"
  na_own_radius : NoAttr K a.c_Ball "own_radius"
  na_own_root : NoAttr K a.c_Branch "own_root"
  na_own_ends : NoAttr K a.c_Way "own_ends"
  n_len : mg "len" = none
  n_tuple : mg "tuple" = none
  n_isinstance : mg "isinstance" = none
  n_all : mg "all" = none
  n_enumerate : mg "enumerate" = none
  n_list : mg "list" = none
  n_range : mg "range" = none
  n_abs : mg "abs" = none
  n_int : mg "int" = none
  n_max : mg "max" = none
  n_min : mg "min" = none
  n_super : mg "super" = none
  n_str : mg "str" = none
  letters : ∃ t, mg "LETTERS" = some (.str "abcdefghijklmnopqrstuvwxyz" t)
  gcl : ∀ C, GC a C → Cls K C
  gna_own : ∀ C, GC a C → NoAttr K C "own"
  gna_own_tree : ∀ C, GC a C → NoAttr K C "own_tree"
  gm_bridge : ∀ C, GC a C → Meth K C "bridge" a.f_Grove_bridge
  gm_sources : ∀ C, GC a C → Meth K C "sources" a.f_Grove_sources
  gin : ∀ C, GC a C → PySem.W.findIn K (.ref C) "__contains__" = some (some (.ref a.f_GroveX_containsX))
  glen : ∀ C, GC a C → PySem.W.findIn K (.ref C) "__len__" = some (some (.ref a.f_GroveX_lenX))
  gcall : ∀ C, GC a C → StX.CallO K C a.f_GroveX_callX
  geq : ∀ C, GC a C → EqC K a.f_GroveX_eqX C
  gsh : ∀ C, GC a C → ShC K a.f_GroveX_rshiftX C
  gsub : ∀ C D, GC a C → GC a D → C = D ∨ ∃ r, PySem.W.subIn K (.ref D) (.ref C) = some r
  gki : ∀ C, GC a C → PySem.W.kitOne K (.ref C) (.ref a.c_Grove) = some true
  gty : ∀ C, GC a C → TyC K C
  tin : PySem.W.findIn K (.ref a.c_Tree) "__contains__" = some (some (.ref a.f_TreeX_containsX))
  teq : EqC K a.f_TreeX_eqX a.c_Tree
  tki : PySem.W.kitOne K (.ref a.c_Tree) (.ref a.c_Tree) = some true
  tty : TyC K a.c_Tree
  lki : PySem.W.kitOne K (.type "int") (.ref a.c_Length) = some false
  lread : ClX.CRead K a.c_Tree (.type "type")
  lval : ∃ t, ClX.CVal K a.c_Tree (.type "type") "LARGEST" (.int 40) (.int 40 t)
  ginit_ty : PySem.W.typeIn K (.ref a.f_GroveX_initX) = some (.type "function")
  ginit_fn : PySem.W.fnIn K a.f_GroveX_initX = true
  ptop : (P.main.scope.names.lookup ("super" : Str)).isSome = false
  k_Grove_bridge : PySem.W.keepIn K (.ref a.f_Grove_bridge) = true
  k_Grove_sources : PySem.W.keepIn K (.ref a.f_Grove_sources) = true
  fn_GroveX_containsX : PySem.W.isFn K (.ref a.f_GroveX_containsX) = true
  fn_GroveX_lenX : PySem.W.isFn K (.ref a.f_GroveX_lenX) = true
  fn_GroveX_eqX : PySem.W.isFn K (.ref a.f_GroveX_eqX) = true
  fn_GroveX_rshiftX : PySem.W.isFn K (.ref a.f_GroveX_rshiftX) = true
  fn_TreeX_containsX : PySem.W.isFn K (.ref a.f_TreeX_containsX) = true
  fn_TreeX_eqX : PySem.W.isFn K (.ref a.f_TreeX_eqX) = true
end Tw
/-! the data, the promises -/
namespace Tw
open PySem PySem.Spec PyProof.Rows L2
/-- texts as values -/
def tv (l : List Str) : List V := l.map V.str
theorem tv_length (l : List Str) : (tv l).length = l.length := List.length_map _
theorem tv_get {l : List Str} {i : Nat} {v : V} (h : (tv l)[i]? = some v) : ∃ x, l[i]? = some x ∧ v = .str x := by
  unfold tv at h
  rw [List.getElem?_map] at h
  cases e : l[i]? with
  | none => rw [e] at h; cases h
  | some x => rw [e] at h; exact ⟨x, rfl, (Option.some.inj h).symm⟩
theorem tv_at {l : List Str} {i : Nat} {x : Str} (h : l[i]? = some x) : (tv l)[i]? = some (.str x) := by
  unfold tv; rw [List.getElem?_map, h]; rfl
theorem tv_flat (l : List Str) : (tv l).all flatV = true := by
  unfold tv; rw [List.all_map, List.all_eq_true]; intro x _; rfl
theorem tv_in (x : Str) (l : List Str) : inV (.str x) (tv l) = decide (x ∈ l) := by
  unfold inV tv
  rw [List.any_map, Bool.eq_iff_iff, decide_eq_true_iff, List.any_eq_true]
  refine ⟨fun ⟨y, hy, e⟩ => ?_, fun h => ⟨x, h, ?_⟩⟩
  · have e' : eqV (.str y) (.str x) = true := e
    have : y = x := by simpa [eqV] using e'
    rw [← this]; exact hy
  · show eqV (.str x) (.str x) = true
    simp [eqV]
/-- a dict by texts: one pair for each of l -/
def dkv (l : List Str) (f : Str → V) : List (Key × V) := l.map fun p => (Sum.inr p, f p)
theorem dkv_length (l : List Str) (f : Str → V) : (dkv l f).length = l.length := List.length_map _
theorem dkv_val {f : Str → V} {p : Str} : ∀ {l : List Str}, valV (dkv l f) (.inr p) = if p ∈ l then some (f p) else none
  | [] => rfl
  | q :: r => by
    have ih := dkv_val (f := f) (p := p) (l := r)
    unfold valV dkv at ih ⊢
    rw [List.map_cons, List.find?_cons]
    by_cases h : q = p
    · subst h
      simp
    · have hk : ¬ (Sum.inr q : Key) = Sum.inr p := fun e => h (Sum.inr.inj e)
      rw [decide_eq_false hk]
      simp only [List.mem_cons]
      rw [ih]
      by_cases hm : p ∈ r
      · rw [if_pos hm, if_pos (.inr hm)]
      · rw [if_neg hm, if_neg (fun e => e.elim (fun e => h e.symm) hm)]
/-- a name of a place: 1 to 6 letters a-z -/
structure WordOk (x : Str) : Prop where
  lo : 1 ≤ x.cps.size
  hi : x.cps.size ≤ 6
  az : ∀ c ∈ x.cps.toList, 97 ≤ c ∧ c < 123
theorem WordOk.ok {x : Str} (h : WordOk x) : PySem.PyData.strOk x = true := by
  unfold PySem.PyData.strOk
  rw [Array.all_eq_true]
  intro i hi
  have := (h.az x.cps[i] (Array.mem_toList_iff.mpr (Array.getElem_mem hi))).2
  exact decide_eq_true (by omega)
/-- a tree of the law -/
structure TD where
  ps : List Str
  es : List (Str × Str)
  d : Str → Str → Nat
  gt : TwM.GT ps es d
  ne : ps ≠ []
  small : ps.length ≤ 40
  esm : es.length ≤ 40
  word : ∀ p ∈ ps, WordOk p
def nearL (D : TD) (p : Str) : List Str := D.ps.filter fun q => decide (TwM.EdgeOf D.es p q)
def treeFs (aP aE nd gd : Addr) : List (Str × V) := [("own_places", .ref aP), ("own_edges", .ref aE), ("near", .ref nd), ("gaps", .ref gd)]
theorem treeFs_places {aP aE nd gd : Addr} : (treeFs aP aE nd gd).lookup ("own_places" : Str) = some (.ref aP) := by kernel_rfl
theorem treeFs_near {aP aE nd gd : Addr} : (treeFs aP aE nd gd).lookup ("near" : Str) = some (.ref nd) := by kernel_rfl
theorem treeFs_gaps {aP aE nd gd : Addr} : (treeFs aP aE nd gd).lookup ("gaps" : Str) = some (.ref gd) := by kernel_rfl
/-- a Tree stands at t -/
structure TreeAt (a : Ads) (D : TD) (H : Hp) (t : Addr) : Prop where
  ex : ∃ (dx aP aE nd gd : Addr) (na ga : Str → Addr), H t = some (.ins a.c_Tree dx (treeFs aP aE nd gd)) ∧ H aP = some (.tup (tv D.ps)) ∧ H nd = some (.dK (dkv D.ps fun p => .ref (na p))) ∧ (∀ p ∈ D.ps, H (na p) = some (.tup (tv (nearL D p)))) ∧
    H gd = some (.dK (dkv D.ps fun p => .ref (ga p))) ∧ ∀ p ∈ D.ps, ∃ kvs, H (ga p) = some (.dK kvs) ∧ ∀ q ∈ D.ps, valV kvs (.inr q) = some (.int (D.d p q))
theorem TreeAt.mono {a : Ads} {D : TD} {H H' : Hp} {t : Addr} (T : TreeAt a D H t) (e : Same H H') : TreeAt a D H' t := by
  obtain ⟨dx, aP, aE, nd, gd, na, ga, h1, h2, h3, h4, h5, h6⟩ := T.ex
  refine ⟨dx, aP, aE, nd, gd, na, ga, e _ _ h1, e _ _ h2, e _ _ h3, fun p hp => e _ _ (h4 p hp), e _ _ h5, fun p hp => ?_⟩
  obtain ⟨kvs, q1, q2⟩ := h6 p hp
  exact ⟨kvs, e _ _ q1, q2⟩
/-- the distances' dicts -/
theorem TreeAt.gaps {a : Ads} {D : TD} {H : Hp} {t : Addr} (T : TreeAt a D H t) : ∃ (dx : Addr) (fs : List (Str × V)) (gd : Addr) (ga : Str → Addr), H t = some (.ins a.c_Tree dx fs) ∧ fs.lookup ("gaps" : Str) = some (.ref gd) ∧
    H gd = some (.dK (dkv D.ps fun p => .ref (ga p))) ∧ ∀ p ∈ D.ps, ∃ kvs, H (ga p) = some (.dK kvs) ∧ ∀ q ∈ D.ps, valV kvs (.inr q) = some (.int (D.d p q)) := by
  obtain ⟨dx, aP, aE, nd, gd, na, ga, h1, h2, h3, h4, h5, h6⟩ := T.ex
  exact ⟨dx, _, gd, ga, h1, treeFs_gaps, h5, h6⟩
theorem TreeAt.places {a : Ads} {D : TD} {H : Hp} {t : Addr} (T : TreeAt a D H t) : ∃ (dx : Addr) (fs : List (Str × V)) (aP : Addr), H t = some (.ins a.c_Tree dx fs) ∧ fs.lookup ("own_places" : Str) = some (.ref aP) ∧ H aP = some (.tup (tv D.ps)) := by
  obtain ⟨dx, aP, aE, nd, gd, na, ga, h1, h2, h3, h4, h5, h6⟩ := T.ex
  exact ⟨dx, _, aP, h1, treeFs_places, h2⟩
theorem dget {H : Hp} {d : Addr} {kvs : List (Key × V)} {x : Str} {v : V} (h : H d = some (.dK kvs)) (e : valV kvs (.inr x) = some v) : DGet H d (.str x) (some v) := by
  rw [← e]; exact DGet.k (k := Sum.inr x) h
theorem dkv_at {l : List Str} {f : Str → V} {p : Str} (h : p ∈ l) : valV (dkv l f) (.inr p) = some (f p) := by rw [dkv_val, if_pos h]
/-- a grove stands at g -/
structure GroveAt (a : Ads) (H : Hp) (t g : Addr) (S : List Str) : Prop where
  ex : ∃ (C dx aO : Addr) (fs : List (Str × V)), GC a C ∧ H g = some (.ins C dx fs) ∧ fs.lookup ("own_tree" : Str) = some (.ref t) ∧ fs.lookup ("own" : Str) = some (.ref aO) ∧ H aO = some (.tup (tv S)) ∧
    fs.lookup ("bridge" : Str) = none ∧ fs.lookup ("sources" : Str) = none
theorem GroveAt.mono {a : Ads} {H H' : Hp} {t g : Addr} {S : List Str} (G : GroveAt a H t g S) (e : Same H H') : GroveAt a H' t g S := by
  obtain ⟨C, dx, aO, fs, h0, h1, h2, h3, h4, h5⟩ := G.ex
  exact ⟨C, dx, aO, fs, h0, e _ _ h1, h2, h3, e _ _ h4, h5⟩
/-- a grove of the tree D at t -/
abbrev GrD (D : TD) (S : List Str) : Prop := TwM.Gr D.ps D.d S
/-! ### promises -/
def spBetween (a : Ads) : Sp := fun vs H Q _ => ∃ (D : TD) (t : Addr) (x y z : Str), vs = [.ref t, .str x, .str y, .str z] ∧ TreeAt a D H t ∧ x ∈ D.ps ∧ y ∈ D.ps ∧ z ∈ D.ps ∧ Q (.bl (decide (D.d x y + D.d y z = D.d x z))) H
def spGateOf (a : Ads) : Sp := fun vs H Q _ => ∃ (D : TD) (t aS : Addr) (S : List Str) (x : Str), vs = [.ref t, .ref aS, .str x] ∧ TreeAt a D H t ∧ H aS = some (.tup (tv S)) ∧ S ≠ [] ∧ (∀ y ∈ S, y ∈ D.ps) ∧ x ∈ D.ps ∧ Q (.str (TwM.gate D.d S x)) H
def spCommon : Sp := fun vs H Q _ => ∃ (a1 a2 : Addr) (A B : List Str), vs = [.ref a1, .ref a2] ∧ H a1 = some (.tup (tv A)) ∧ H a2 = some (.tup (tv B)) ∧ A.length ≤ 40 ∧ ∀ p H', Same H H' → H p = none → H' p = some (.tup (tv (TwM.cap A B))) → Q (.ref p) H'
def spBridgeOf (a : Ads) : Sp := fun vs H Q _ => ∃ (D : TD) (t a1 a2 : Addr) (x : Str) (A B : List Str), vs = [.ref t, .ref a1, .ref a2] ∧ TreeAt a D H t ∧ H a1 = some (.tup (tv (x :: A))) ∧ H a2 = some (.tup (tv B)) ∧ B ≠ [] ∧ (∀ y ∈ x :: A, y ∈ D.ps) ∧ (∀ y ∈ B, y ∈ D.ps) ∧
  ∀ p, H p = none → Q (.ref p) (upd H p (.tup [.str (TwM.gate D.d (x :: A) (TwM.gate D.d B x)), .str (TwM.gate D.d B x)]))
def spAfter (a : Ads) : Sp := fun vs H Q _ => ∃ (D : TD) (t a1 a2 : Addr) (A B : List Str), vs = [.ref t, .ref a1, .ref a2] ∧ TreeAt a D H t ∧ H a1 = some (.tup (tv A)) ∧ H a2 = some (.tup (tv B)) ∧ A ≠ [] ∧ B ≠ [] ∧ A.length ≤ 40 ∧ (∀ y ∈ A, y ∈ D.ps) ∧ (∀ y ∈ B, y ∈ D.ps) ∧
  ∀ p H', Same H H' → H p = none → H' p = some (.tup (tv (TwM.aft D.d A B))) → Q (.ref p) H'
/-- two groves of one tree -/
def spNeedTree (a : Ads) : Sp := fun vs H Q _ => ∃ (D : TD) (t g1 g2 : Addr) (A B : List Str), vs = [.ref g1, .ref g2] ∧ TreeAt a D H t ∧ GroveAt a H t g1 A ∧ GroveAt a H t g2 B ∧ Q .non H
def spNeedSome (a : Ads) : Sp := fun vs H Q _ => ∃ (t g1 g2 : Addr) (A B : List Str), vs = [.ref g1, .ref g2] ∧ GroveAt a H t g1 A ∧ GroveAt a H t g2 B ∧ A ≠ [] ∧ B ≠ [] ∧ Q .non H
def spMadeInit (a : Ads) : Sp := fun vs H Q _ => ∃ (g t aS dx : Addr), vs = [.ref g, .ref t, .ref aS] ∧ H g = some (.ins a.c_Made dx []) ∧ Q .non (upd H g (.ins a.c_Made dx [("own_tree", .ref t), ("own", .ref aS)]))
def spMade (a : Ads) : Sp := fun vs H Q _ => ∃ (t aS : Addr) (S : List Str), vs = [.ref t, .ref aS] ∧ H aS = some (.tup (tv S)) ∧ ∀ g H', Same H H' → H g = none → GroveAt a H' t g S → Q (.ref g) H'
def spContains (a : Ads) : Sp := fun vs H Q _ => ∃ (t g : Addr) (S : List Str) (x : Str), vs = [.ref g, .str x] ∧ GroveAt a H t g S ∧ Q (.bl (decide (x ∈ S))) H
def spLen (a : Ads) : Sp := fun vs H Q _ => ∃ (t g : Addr) (S : List Str), vs = [.ref g] ∧ GroveAt a H t g S ∧ Q (.int S.length) H
def spGEq (a : Ads) : Sp := fun vs H Q _ => ∃ (D : TD) (t g1 g2 : Addr) (A B : List Str), vs = [.ref g1, .ref g2] ∧ TreeAt a D H t ∧ GroveAt a H t g1 A ∧ GroveAt a H t g2 B ∧ (∀ x ∈ A, x ∈ D.ps) ∧ (∀ x ∈ B, x ∈ D.ps) ∧ Q (.bl (decide (A = B))) H
def spTEq (a : Ads) : Sp := fun vs H Q _ => ∃ (D : TD) (t : Addr), vs = [.ref t, .ref t] ∧ TreeAt a D H t ∧ Q (.bl true) H
def spTIn (a : Ads) : Sp := fun vs H Q _ => ∃ (D : TD) (t : Addr) (x : Str), vs = [.ref t, .str x] ∧ TreeAt a D H t ∧ Q (.bl (decide (x ∈ D.ps))) H
def spShift (a : Ads) : Sp := fun vs H Q _ => ∃ (D : TD) (t g1 g2 : Addr) (A B : List Str), vs = [.ref g1, .ref g2] ∧ TreeAt a D H t ∧ GroveAt a H t g1 A ∧ GroveAt a H t g2 B ∧ GrD D A ∧ GrD D B ∧ ∀ g H', Same H H' → H g = none → GroveAt a H' t g (TwM.aft D.d A B) → Q (.ref g) H'
def spGCall (a : Ads) : Sp := fun vs H Q _ => ∃ (D : TD) (t g : Addr) (S : List Str) (x : Str), vs = [.ref g, .str x] ∧ TreeAt a D H t ∧ GroveAt a H t g S ∧ GrD D S ∧ x ∈ D.ps ∧ Q (.str (TwM.gate D.d S x)) H
def spBridge (a : Ads) : Sp := fun vs H Q _ => ∃ (D : TD) (t g1 g2 : Addr) (A B : List Str), vs = [.ref g1, .ref g2] ∧ TreeAt a D H t ∧ GroveAt a H t g1 A ∧ GroveAt a H t g2 B ∧ GrD D A ∧ GrD D B ∧ ∀ v H', Same H H' → (v = .non ↔ TwM.cap A B ≠ []) → Q v H'
def spSources (a : Ads) : Sp := fun vs H Q _ => ∃ (D : TD) (t g1 g2 : Addr) (A B : List Str), vs = [.ref g1, .ref g2] ∧ TreeAt a D H t ∧ GroveAt a H t g1 A ∧ GroveAt a H t g2 B ∧ GrD D A ∧ GrD D B ∧
  ∀ g H', Same H H' → GroveAt a H' t g (D.ps.filter fun x => decide (TwM.gate D.d B x ∈ A)) → Q (.ref g) H'
/-- all but the new object is as it was -/
def But (g : Addr) (H H' : Hp) : Prop := ∀ b o, H b = some o → b ≠ g → H' b = some o
def groveFs (t aO : Addr) : List (Str × V) := [("own_tree", .ref t), ("own", .ref aO)]
def spGInit (a : Ads) : Sp := fun vs H Q _ => ∃ (D : TD) (C g t aP dx : Addr) (P S : List Str), vs = [.ref g, .ref t, .ref aP] ∧ GC a C ∧ H g = some (.ins C dx []) ∧ TreeAt a D H t ∧ H aP = some (.tup (tv P)) ∧ (∀ x ∈ P, x ∈ D.ps) ∧
  S = D.ps.filter (fun x => decide (x ∈ P)) ∧ GrD D S ∧ ∀ aO H', But g H H' → H' g = some (.ins C dx (groveFs t aO)) → H' aO = some (.tup (tv S)) → Q .non H'
/-- what an __init__ of a grove's class promises: a grove of these places -/
def Made1 (a : Ads) (C : Addr) (D : TD) (H : Hp) (g t dx : Addr) (S : List Str) (Q : VK) : Prop := ∀ H' aO fs, But g H H' → H' g = some (.ins C dx fs) → fs.lookup ("own_tree" : Str) = some (.ref t) → fs.lookup ("own" : Str) = some (.ref aO) → H' aO = some (.tup (tv S)) →
  fs.lookup ("bridge" : Str) = none → fs.lookup ("sources" : Str) = none → Q .non H'
def spBall (a : Ads) : Sp := fun vs H Q _ => ∃ (D : TD) (g t dx : Addr) (c : Str) (r : Int), vs = [.ref g, .ref t, .str c, .int r] ∧ H g = some (.ins a.c_Ball dx []) ∧ TreeAt a D H t ∧ c ∈ D.ps ∧ 0 ≤ r ∧ Made1 a a.c_Ball D H g t dx (D.ps.filter fun x => decide ((D.d c x : Int) ≤ r)) Q
def spBranch (a : Ads) : Sp := fun vs H Q _ => ∃ (D : TD) (g t dx : Addr) (u w : Str), vs = [.ref g, .ref t, .str u, .str w] ∧ H g = some (.ins a.c_Branch dx []) ∧ TreeAt a D H t ∧ TwM.EdgeOf D.es u w ∧ Made1 a a.c_Branch D H g t dx (D.ps.filter fun x => decide (D.d u w + D.d w x = D.d u x)) Q
def spWay (a : Ads) : Sp := fun vs H Q _ => ∃ (D : TD) (g t dx : Addr) (u w : Str), vs = [.ref g, .ref t, .str u, .str w] ∧ H g = some (.ins a.c_Way dx []) ∧ TreeAt a D H t ∧ u ∈ D.ps ∧ w ∈ D.ps ∧ Made1 a a.c_Way D H g t dx (D.ps.filter fun x => decide (D.d u x + D.d x w = D.d u w)) Q
def spWhole (a : Ads) : Sp := fun vs H Q _ => ∃ (D : TD) (g t dx : Addr), vs = [.ref g, .ref t] ∧ H g = some (.ins a.c_Whole dx []) ∧ TreeAt a D H t ∧ Made1 a a.c_Whole D H g t dx D.ps Q
/-- need_places of the shapes, its tuple laid -/
def spNP (a : Ads) : Sp := fun vs H Q _ => ∃ (D : TD) (t p : Addr) (xs : List Str), vs = [.ref t, .ref p] ∧ TreeAt a D H t ∧ H p = some (.tup (tv xs)) ∧ (∀ x ∈ xs, x ∈ D.ps) ∧ Q .non H
def spStar (sp : Sp) (n : Nat) : Sp := fun vs H Q E => ∃ ws rest, vs = ws ++ rest ∧ ws.length = n ∧ rest.length ≤ sizeLine ∧ ∀ p, H p = none → sp (ws ++ [V.ref p]) (upd H p (.tup rest)) Q E
def lenFs (n : Int) : List (Str × V) := [("rank", .int 0), ("size", .int n)]
def spLength (a : Ads) : Sp := fun vs H Q _ => ∃ (g dx : Addr) (n : Int), vs = [.ref g, .int n] ∧ H g = some (.ins a.c_Length dx []) ∧ Q .non (upd H g (.ins a.c_Length dx (lenFs n)))
def spWithin (a : Ads) : Sp := fun vs H Q _ => ∃ (l dx : Addr) (n m : Int), vs = [.int n, .ref l] ∧ H l = some (.ins a.c_Length dx (lenFs m)) ∧ Q (.bl (decide (n ≤ m))) H
theorem Same.but {g : Addr} {H H1 H2 : Hp} (e : Same H H1) (b : But g H1 H2) : But g H H2 := fun c o h n => b c o (e _ _ h) n
theorem But.upd {g : Addr} {H H1 : Hp} {o : HO} (b : But g H H1) : But g H (upd H1 g o) := fun c o h n => by rw [upd_ne n]; exact b c o h n
/-- a tuple of pairs of texts -/
def PairsAt (H : Hp) (q : Addr) (es : List (Str × Str)) : Prop := ∃ bs : List (Addr × (Str × Str)), bs.map Prod.snd = es ∧ H q = some (.tup (bs.map fun b => .ref b.1)) ∧ ∀ b ∈ bs, H b.1 = some (.tup [.str b.2.1, .str b.2.2])
theorem PairsAt.mono {H H' : Hp} {q : Addr} {es : List (Str × Str)} (h : PairsAt H q es) (e : Same H H') : PairsAt H' q es := by
  obtain ⟨bs, h1, h2, h3⟩ := h
  exact ⟨bs, h1, e _ _ h2, fun b hb => e _ _ (h3 b hb)⟩
def spIsWord : Sp := fun vs H Q _ => ∃ x : Str, vs = [.str x] ∧ WordOk x ∧ ∀ H', Same H H' → Q (.bl true) H'
def spIsStrings : Sp := fun vs H Q _ => ∃ (q : Addr) (l : List Str) (m : V), vs = [.ref q, m] ∧ H q = some (.tup (tv l)) ∧ l.length ≤ 1000 ∧ (m = .non ∨ m = .int l.length) ∧ ∀ H', Same H H' → Q (.bl true) H'
def spCheckPlaces : Sp := fun vs H Q _ => ∃ (D : TD) (q : Addr), vs = [.ref q] ∧ H q = some (.tup (tv D.ps)) ∧ ∀ H', Same H H' → Q .non H'
def spCheckEdges : Sp := fun vs H Q _ => ∃ (D : TD) (q r : Addr), vs = [.ref q, .ref r] ∧ H q = some (.tup (tv D.ps)) ∧ PairsAt H r D.es ∧ ∀ H', Same H H' → Q .non H'
def spCheckTree : Sp := spCheckEdges
end Tw
/-! comprehensions that pick texts -/
namespace Tw
open PySem PySem.Spec PyProof.Rows L2
theorem take_filter {α : Type} {l : List α} {i : Nat} {x : α} (p : α → Bool) (h : l[i]? = some x) : (l.take (i + 1)).filter p = (l.take i).filter p ++ (if p x then [x] else []) := by
  obtain ⟨hlt, e⟩ := List.getElem?_eq_some_iff.mp h
  rw [List.take_succ_eq_append_getElem hlt, List.filter_append, e]
  congr 1
  by_cases q : p x = true
  · simp [q]
  · simp [q]
theorem sz_small {n : Nat} (h : n ≤ 1000) : n < sizeLine := small1000 h
theorem same_upd {H : Hp} {p : Addr} {o : HO} (h : H p = none) : Same H (upd H p o) := fun b u e => by rw [upd_ne (ne_of_none e h)]; exact e
theorem Same.upd' {H H1 : Hp} {p : Addr} {o : HO} (e : Same H H1) (h : H1 p = none) : Same H (upd H1 p o) := e.trans (same_upd h)
/-- [x for x in l if p x] -/
theorem lc_pick {J : It} {G : Hp → Prop} {l : List Str} {i : Nat} {tt : TT} {vs : List Nat} {σ : L2.St} {H1 : Hp} {D : Addr} {Qd : Hp → Prop} (p : Str → Bool) (w : Walk J (tv l).length G (YAt (tv l))) (hG : ∀ H, Same H1 H → G H) (hl : l.length ≤ 1000) (hD : H1 D = none)
    (hw : ∀ v, wipe ((wipe σ vs).set i v) vs = wipe σ vs) (hv : ∀ v, ((wipe σ vs).set i (some v))[i]? = some (some v))
    (ht : ∀ x ∈ l, ∀ (H : Hp) (R : Bool → Hp → Prop), Same H1 H → R (p x) H → tt ((wipe σ vs).set i (some (.str x))) H R) (hd : Qd (upd H1 D (.lst (tv (l.filter p))))) :
    ∃ W : Nat → Nat → Hp → Prop, (∃ m, W 0 m (upd H1 D (.lst []))) ∧ ∀ i' m H, W i' m H →
      (J.stop i' H ∧ Qd H) ∨ (J.go i' H ∧ ∃ Nx : Hp → Prop, (∀ H', Nx H' → ∃ m', m' < m ∧ W (i' + 1) m' H') ∧ ∀ x H', J.yld i' H x H' → gName i x (wipe σ vs) H' fun σ2 H2 => wipe σ2 vs = wipe σ vs ∧ tt σ2 H2 fun b H3 =>
        if b = true then tVar i σ2 H3 fun y H4 => ∃ acc, H4 D = some (.lst acc) ∧ acc.length < sizeLine ∧ Nx (upd H4 D (.lst (acc ++ [y]))) else Nx H3) := by
  have sm : ∀ o, Same H1 (upd H1 D o) := fun o => same_upd hD
  refine lc_it w (fun k H => H = upd H1 D (.lst (tv ((l.take k).filter p)))) rfl (fun k H _ e => hG _ (by rw [e]; exact sm _)) (fun k v H H' hk e y => ?_) (fun H e => ?_)
  · subst e
    obtain ⟨rfl, hy⟩ := y
    obtain ⟨x, hx, rfl⟩ := tv_get hy
    refine ⟨hw _, ht x (List.mem_of_getElem? hx) _ _ (sm _) ?_⟩
    have st := take_filter p hx
    have le : ((l.take k).filter p).length ≤ 1000 := Nat.le_trans (List.length_filter_le _ _) (Nat.le_trans (by rw [List.length_take]; exact Nat.min_le_right _ _) hl)
    by_cases q : p x = true
    · rw [if_pos q]
      refine ⟨_, hv _, _, upd_same, by rw [tv_length]; exact sz_small le, ?_⟩
      rw [upd_upd, st, if_pos q]
      unfold tv
      rw [List.map_append]
      rfl
    · rw [if_neg q, st, if_neg q, List.append_nil]
  · rw [tv_length, List.take_length] at e
    rw [e]
    exact hd
end Tw
/-! rules whose reading names the written part by itself (within a comprehension's block) -/
namespace Tw
open PySem PySem.Spec PyProof.Rows L2
section
variable {X : Cx} {K : PySem.W.Frag} {e o b : Expr} {f : Str} {pos : Pos} {ta tb : TE}
theorem op_in_seqK (h : X.K = K) : OpR X (compareOp .In) (rIn K false) := by rw [← h]; exact op_in_seq
theorem op_notIn_seqK (h : X.K = K) : OpR X (compareOp .NotIn) (rIn K true) := by rw [← h]; exact op_notIn_seq
theorem pe_fldK (h : X.K = K) (he : PE X e ta) (hb : attributeBase e f X.env (eval e X.env) = eval e X.env) : PE X (.Attribute e f pos) (tFld K ta f) := by rw [← h]; exact pe_fld he hb
theorem call_isiK (h : X.K = K) : CallR X (.builtin "isinstance") (rIsi K) := by rw [← h]; exact call_isi
theorem pg_tupK {es : List Expr} {k : Nat} {t : TGs} {n : Nat} (h : X.K = K) (hc : X.calm = true) (hs : PGs X es t) (hn : (assignEach es X.env).length = n := by rfl) (hst : (assignEach es X.env).findIdx? (·.1) = none := by rfl) : PG X (.Tuple es k pos) (gTup K n t) := by
  rw [← h]; exact pg_tup hc hs hn hst
theorem pi_listK {tg l : Expr} {tl : TE} (h : X.K = K) (hl : PE X l tl) : PI X tg l (iList K tl) := by rw [← h]; exact pi_list hl
theorem pi_tupK {tg l : Expr} {tl : TE} (h : X.K = K) (hl : PE X l tl) : PI X tg l (iTup K tl) := by rw [← h]; exact pi_tup hl
theorem sl_listK (h : X.K = K) : SlR X (rSlL K) := by rw [← h]; exact sl_list
theorem ix_listK (h : X.K = K) : IxR X (rIxL K) := by rw [← h]; exact ix_list
theorem ix_tupK (h : X.K = K) : IxR X (rIxT K) := by rw [← h]; exact ix_tup
theorem op_eqDK (h : X.K = K) (hu : X.A.units + 64 < cLine) : OpR X (compareOp .Eq) (rEqD K) := by rw [← h]; exact op_eqD hu
theorem call_len_seqK (h : X.K = K) : CallR X (.builtin "len") (fun xs H Q => ∃ p ys, xs = [.ref p] ∧ (SqL K H p ys ∨ SqT K H p ys) ∧ Q (.int ys.length) H) := by rw [← h]; exact call_len_seq
variable {k : Nat} {g : Addr} {sp : Sp}
theorem op_inIK (h : X.K = K) (hf : PySem.W.isFn K (.ref g) = true) (F : FnR X.prog X.w X.K X.mg X.base CX0 k g sp) (hr : Room k X.A) : OpR X (compareOp .In) (rInI K g sp false) := by subst h; exact op_inI hf F hr
theorem op_eqIK (h : X.K = K) (hf : PySem.W.isFn K (.ref g) = true) (F : FnR X.prog X.w X.K X.mg X.base CX0 k g sp) (hr : Room k X.A) : OpR X (compareOp .Eq) (rCmpI K g sp false) := by subst h; exact op_eqI hf F hr
variable {m : Str} {es : List Expr} {t : TA} {apos : Pos}
theorem pe_methGK {pl : Sem Bool} (h : X.K = K) (he : PE X o ta) (F : FnR X.prog X.w X.K X.mg X.base CX0 k g sp) (hr : Room k X.A) (kp : PySem.W.keepIn K (.ref g) = true) (ha : PA X (e :: es) t)
    (hst : starEach (e :: es) X.env = (false, eval e X.env) :: starEach es X.env := by rfl) (hpl : (backTo pos (starEach es X.env)).any (·.1) = false := by rfl)
    (ht : eval (.Call (.Attribute o m apos) (e :: es) [] pos) X.env = (do
      let ov ← eval o X.env
      standAt apos.atName
      let (f, first) ← holding [ov] (getMethod ov m pl)
      callWith pos f first (backTo pos (starEach (e :: es) X.env)) (backToKw pos (keywordEach [] X.env))) := by rfl) :
    PE X (.Call (.Attribute o m apos) (e :: es) [] pos) (tMethG K m g sp ta t) := by subst h; exact pe_methG he F hr kp ha hst hpl ht
def tCallIK (K : PySem.W.Frag) (g : Addr) (sp : Sp) (tf : TE) (t : TA) : TE := fun σ H Q => tf σ H fun y H1 => ∃ a, y = V.ref a ∧ t σ H1 fun vs H2 => (∃ C dx fs, H2 a = some (.ins C dx fs) ∧ StX.CallO K C g) ∧ sp (V.ref a :: vs) H2 Q E0
theorem pe_callIK {fe : Expr} {tf : TE} (h : X.K = K) (hf : PE X fe tf) (F : FnR X.prog X.w X.K X.mg X.base CX0 k g sp) (hr : Room k X.A) (ha : PA X (e :: es) t)
    (ht : eval (.Call fe (e :: es) [] pos) X.env = (do callWith pos (← eval fe X.env) [] (backTo pos (starEach (e :: es) X.env)) (backToKw pos (keywordEach [] X.env))) := by rfl)
    (he : starEach (e :: es) X.env = (false, eval e X.env) :: starEach es X.env := by rfl) (hpl : (backTo pos (starEach es X.env)).any (·.1) = false := by rfl) : PE X (.Call fe (e :: es) [] pos) (tCallIK K g sp tf t) := by subst h; exact pe_callI hf F hr ha ht he hpl
end
end Tw
namespace Tw
open PySem PySem.Spec PyProof.Rows L2
section
variable {P : Program} {w : World} {K : PySem.W.Frag} {mg : Str → Option Value} {base : Heap} {a : Ads}
/-- tree.gaps[x][y] -/
theorem rd_gaps (T : Txt P K mg a) {D : TD} {t : Addr} {x y : Str} {σ : L2.St} {H : Hp} {Q : VK} {i j k : Nat} (TA : TreeAt a D H t) (hx : x ∈ D.ps) (hy : y ∈ D.ps) (hi : σ[i]? = some (some (.ref t))) (hj : σ[j]? = some (some (.str x))) (hk : σ[k]? = some (some (.str y)))
    (h : Q (.int (D.d x y)) H) : tDGet (tDGet (tFld K (tVar i) "gaps") (tVar j)) (tVar k) σ H Q := by
  obtain ⟨dx, fs, gd, ga, h1, h2, h3, h4⟩ := TA.gaps
  obtain ⟨kvs, q1, q2⟩ := h4 x hx
  exact ⟨_, hi, t, _, dx, fs, _, rfl, h1, T.cl_Tree, T.na_gaps, h2, _, hj, gd, _, rfl, dget h3 (dkv_at hx), _, hk, _, _, rfl, dget q1 (q2 y hy), h⟩
theorem ok_is_between (T : Txt P K mg a) : FnR P w K mg base CX0 1 a.f_is_between (spBetween a) := by
  obtain ⟨fd, F⟩ := T.F_is_between
  refine okR F sc_is_between (fun vs H Q E h => ?_) (fun _ _ _ _ _ _ us hl => match us, hl with | [_, _, _, _], _ => rfl) (fun cdv A outer s H vs Q E hr h => ?_)
  · obtain ⟨D, t, x, y, z, rfl, _⟩ := h
    rfl
  · obtain ⟨D, t, x, y, z, rfl, TA, hx, hy, hz, q⟩ := h
    have hu := hu_of hr
    refine ⟨_, (pss_one (ps_ret (pe_cmpR op_eq (pe_op op_add (pe_dget hu (pe_dget hu (pe_fld (pv 0) rfl) (pv 1) (fun _ _ => rfl)) (pv 2) (fun _ _ => rfl)) (pe_dget hu (pe_dget hu (pe_fld (pv 0) rfl) (pv 2) (fun _ _ => rfl)) (pv 3) (fun _ _ => rfl))) (pe_dget hu (pe_dget hu (pe_fld (pv 0) rfl) (pv 1) (fun _ _ => rfl)) (pv 3) (fun _ _ => rfl)) (nomark _)))), ?_⟩
    refine rd_gaps T TA hx hy rfl rfl rfl ?_
    refine rd_gaps T TA hy hz rfl rfl rfl ?_
    refine ⟨_, _, rfl, rfl, ?_⟩
    refine rd_gaps T TA hx hz rfl rfl rfl ?_
    refine ⟨rfl, ?_⟩
    have e : decide (V.int ((D.d x y : Int) + (D.d y z : Int)) = V.int (D.d x z : Int)) = decide (D.d x y + D.d y z = D.d x z) := by
      rw [Bool.eq_iff_iff, decide_eq_true_iff, decide_eq_true_iff]
      exact ⟨fun h => by have := V.int.inj h; omega, fun h => by rw [← h]; rfl⟩
    show Q (.bl (decide (V.int ((D.d x y : Int) + (D.d y z : Int)) = V.int (D.d x z : Int)))) H
    rw [e]
    exact q
theorem ok_gate_of (T : Txt P K mg a) : FnR P w K mg base CX0 1 a.f_gate_of (spGateOf a) := by
  obtain ⟨fd, F⟩ := T.F_gate_of
  refine okR F sc_gate_of (fun vs H Q E h => ?_) (fun _ _ _ _ _ _ us hl => match us, hl with | [_, _, _], _ => rfl) (fun cdv A outer s H vs Q E hr h => ?_)
  · obtain ⟨D, t, aS, S, x, rfl, _⟩ := h
    rfl
  · obtain ⟨D, t, aS, S, x, rfl, TA, hS, hne, hsub, hx, q⟩ := h
    have hu := hu_of hr
    obtain ⟨x0, S0, rfl⟩ := TwM.ne_cons hne
    obtain ⟨dx, fs, gd, ga, h1, h2, h3, h4⟩ := TA.gaps
    obtain ⟨kvs, q1, q2⟩ := h4 x hx
    refine ⟨_, (pss_cons (ps_par (i := 3) (j := 4) rfl sc_gate_of.nd rfl rfl (by decide) rfl rfl (pa_cons (pe_dget hu (pe_fld (pv 0) rfl) (pv 2) (fun _ _ => rfl)) (pa_cons (pe_ix ix_tup (pv 1) pe_int (fun _ _ => rfl)) pa_nil)) (by rfl))
  (pss_cons (ps_for PassesOwn.never rfl (pi_tup (pv 1)) (pg_name (i := 5) sc_gate_of.nd rfl (Or.inl rfl))
    (pss_one (ps_if (pt_cmpR op_lt (pe_dget hu (pv 3) (pv 5) (fun _ _ => rfl)) (pe_dget hu (pv 3) (pv 4) (fun _ _ => rfl)) (nomark _)) (pss_one (ps_set (i := 4) sc_gate_of.nd rfl (Or.inl rfl) (pv 5))) pss_nil)))
  (pss_one (ps_ret (pv 4))))), ?_⟩
    -- gaps, best = tree.gaps[place], places[0]
    refine ⟨_, rfl, t, _, dx, fs, _, rfl, h1, T.cl_Tree, T.na_gaps, h2, _, rfl, gd, _, rfl, dget h3 (dkv_at hx), ?_⟩
    refine ⟨_, rfl, aS, _, _, _, rfl, rfl, SqT.of hS, atI_nat (j := 0) (tv_at (x := x0) rfl), ?_⟩
    refine ⟨_, _, rfl, ?_⟩
    -- for one in places
    refine ⟨_, rfl, aS, rfl, ⟨_, SqT.of hS⟩, for_tup (K := K) (a := aS) (xs := tv (x0 :: S0)) (fun i σ H' => H' = H ∧ ∃ (v : Option V), σ = [some (.ref t), some (.ref aS), some (.str x), some (.ref (ga x)), some (.str (((x0 :: S0).take i).foldl (fun b y => if D.d x y < D.d x b then y else b) x0)), v])
      ⟨rfl, none, rfl⟩ (fun i σ H' _ ⟨e, _⟩ => by rw [e]; exact SqT.of hS) ?_ ?_⟩
    · rintro i v σ H' hi ⟨rfl, u, rfl⟩
      obtain ⟨y, hy, rfl⟩ := tv_get hi
      have hyp : y ∈ D.ps := hsub y (List.mem_of_getElem? hy)
      have hlt : i < (x0 :: S0).length := (List.getElem?_eq_some_iff.mp hy).1
      have hb : ((x0 :: S0).take i).foldl (fun b y => if D.d x y < D.d x b then y else b) x0 ∈ D.ps := by
        rcases (TwM.foldl_min (D.d x) ((x0 :: S0).take i) x0).1 with e | e
        · rw [e]; exact hsub x0 List.mem_cons_self
        · exact hsub _ (List.mem_of_mem_take e)
      have estep : ((x0 :: S0).take (i + 1)).foldl (fun b y => if D.d x y < D.d x b then y else b) x0 = (if D.d x y < D.d x (((x0 :: S0).take i).foldl (fun b y => if D.d x y < D.d x b then y else b) x0) then y else ((x0 :: S0).take i).foldl (fun b y => if D.d x y < D.d x b then y else b) x0) := by
        have ey : (x0 :: S0)[i] = y := by
          rw [List.getElem?_eq_getElem hlt] at hy
          exact Option.some.inj hy
        rw [List.take_succ_eq_append_getElem hlt, List.foldl_append, ey]
        rfl
      refine ⟨_, rfl, _, rfl, ga x, _, rfl, dget q1 (q2 y hyp), ?_⟩
      refine ⟨_, rfl, _, rfl, ga x, _, rfl, dget q1 (q2 _ hb), ?_⟩
      refine ⟨_, _, rfl, rfl, _, rfl, ?_⟩
      refine ite2 (fun hc => ?_) (fun hc => ?_)
      · have hc' : D.d x y < D.d x (((x0 :: S0).take i).foldl (fun b y => if D.d x y < D.d x b then y else b) x0) := by
          have := of_decide_eq_true hc; omega
        refine ⟨_, rfl, rfl, some (.str y), ?_⟩
        rw [estep, if_pos hc']
        rfl
      · have hc' : ¬ D.d x y < D.d x (((x0 :: S0).take i).foldl (fun b y => if D.d x y < D.d x b then y else b) x0) := fun z => hc (decide_eq_true (by omega))
        refine ⟨rfl, some (.str y), ?_⟩
        rw [estep, if_neg hc']
        rfl
    · rintro σ H' ⟨rfl, u, rfl⟩
      refine ⟨_, rfl, ?_⟩
      have e : (tv (x0 :: S0)).length = (x0 :: S0).length := tv_length _
      rw [e, List.take_length]
      exact q
end
end Tw
namespace Tw
open PySem PySem.Spec PyProof.Rows L2
section
variable {P : Program} {w : World} {K : PySem.W.Frag} {mg : Str → Option Value} {base : Heap} {a : Ads}
theorem ok_common (T : Txt P K mg a) : FnR P w K mg base CX0 1 a.f_common spCommon := by
  obtain ⟨fd, F⟩ := T.F_common
  refine okR F sc_common (fun vs H Q E h => ?_) (fun _ _ _ _ _ _ us hl => match us, hl with | [_, _], _ => rfl) (fun cdv A outer s H vs Q E hr h => ?_)
  · obtain ⟨a1, a2, X, Y, rfl, _⟩ := h
    rfl
  · obtain ⟨a1, a2, X, Y, rfl, h1, h2, hl, q⟩ := h
    have hu := hu_of hr
    refine ⟨_, (pss_one (ps_ret (pe_callTy call_tuple_of (by rfl) T.n_tuple (by decide +kernel) (pa_cons (pe_lc (own := [("place", 2)]) rfl sc_common.nd (pi_tup (pv 0)) (blkOk_by (own := [("place", 2)]) (N := N_common) (sc := (defScope s_common)) (by decide +kernel)) (fun _ _ _ _ _ => (pg_name (i := 2) sc_common.nd rfl (Or.inl rfl))) (fun _ _ _ _ _ => (pts_one (pt_cmpR (op_in_seqK (K := K) rfl) (pv 2) (pv 1) (by rfl)))) (fun _ _ _ _ _ => (pv 2))) pa_nil)))), ?_⟩
    refine ⟨_, rfl, a1, rfl, ⟨_, SqT.of h1⟩, fun D hD => lc_pick (i := 2) (l := X) (fun x => decide (x ∈ Y)) (walk_tup (K := K) (a := a1)) (fun H' e => SqT.of (e _ _ h1)) (by omega) hD (fun _ => rfl) (fun _ => rfl) (fun x hx H' R e r => ?_) ?_⟩
    · refine ⟨_, rfl, _, rfl, a2, _, rfl, .inr (SqT.of (e _ _ h2)), rfl, tv_flat _, _, rfl, ?_⟩
      show R (inV (.str x) (tv Y)) H'
      rw [tv_in]
      exact r
    · refine ⟨D, _, rfl, .inl ⟨SqL.of upd_same, fun p hp => ?_⟩⟩
      exact q p _ (Same.upd' (same_upd hD) hp) ((same_upd hD).free hp) upd_same
theorem ok_bridge_of (T : Txt P K mg a) : FnR P w K mg base CX0 2 a.f_bridge_of (spBridgeOf a) := by
  obtain ⟨fd, F⟩ := T.F_bridge_of
  have ok_gate_of := ok_gate_of (P := P) (w := w) (base := base) T
  refine okR F sc_bridge_of (fun vs H Q E h => ?_) (fun _ _ _ _ _ _ us hl => match us, hl with | [_, _, _], _ => rfl) (fun cdv A outer s H vs Q E hr h => ?_)
  · obtain ⟨D, t, a1, a2, x, X, Y, rfl, _⟩ := h
    rfl
  · obtain ⟨D, t, a1, a2, x, X, Y, rfl, TA, h1, h2, hne, s1, s2, q⟩ := h
    have hu := hu_of hr
    refine ⟨_, (pss_cons (ps_set (i := 3) sc_bridge_of.nd rfl (Or.inl rfl) (cR T.g_gate_of ok_gate_of (hr.mono (by decide)) (by rfl) (pa_cons (pv 0) (pa_cons (pv 2) (pa_cons (pe_ix ix_tup (pv 1) pe_int (fun _ _ => rfl)) pa_nil)))))
  (pss_one (ps_ret (pe_tup (pa_cons (cR T.g_gate_of ok_gate_of (hr.mono (by decide)) (by rfl) (pa_cons (pv 0) (pa_cons (pv 1) (pa_cons (pv 3) pa_nil)))) (pa_cons (pv 3) pa_nil)))))), ?_⟩
    refine ⟨_, rfl, _, rfl, _, rfl, a1, _, _, _, rfl, rfl, SqT.of h1, atI_nat (j := 0) (tv_at (x := x) rfl), D, t, a2, Y, x, rfl, TA, h2, hne, s2, s1 x List.mem_cons_self, ?_⟩
    refine ⟨_, rfl, _, rfl, _, rfl, D, t, a1, x :: X, _, rfl, TA, h1, by simp, s1, s2 _ (TwM.gate_min hne x).1, ?_⟩
    exact ⟨_, rfl, by show 2 ≤ sizeLine; decide, fun p hp => q p hp⟩
theorem ok_after (T : Txt P K mg a) : FnR P w K mg base CX0 3 a.f_after (spAfter a) := by
  obtain ⟨fd, F⟩ := T.F_after
  have ok_common := ok_common (P := P) (w := w) (base := base) T
  have ok_bridge_of := ok_bridge_of (P := P) (w := w) (base := base) T
  refine okR F sc_after (fun vs H Q E h => ?_) (fun _ _ _ _ _ _ us hl => match us, hl with | [_, _, _], _ => rfl) (fun cdv A outer s H vs Q E hr h => ?_)
  · obtain ⟨D, t, a1, a2, X, Y, rfl, _⟩ := h
    rfl
  · obtain ⟨D, t, a1, a2, X, Y, rfl, TA, h1, h2, n1, n2, hl, s1, s2, q⟩ := h
    have hu := hu_of hr
    obtain ⟨x, X', rfl⟩ := TwM.ne_cons n1
    refine ⟨_, (pss_cons (ps_set (i := 3) sc_after.nd rfl (Or.inl rfl) (cR T.g_common ok_common (hr.mono (by decide)) (by rfl) (pa_cons (pv 1) (pa_cons (pv 2) pa_nil))))
  (pss_cons (ps_if (pt_cmpR op_gt (pe_callB call_len_seq (by rfl) T.n_len PySem.boot_len (pa_cons (pv 3) pa_nil)) pe_int (nomark _)) (pss_one (ps_ret (pv 3))) pss_nil)
  (pss_one (ps_ret (pe_tup (pa_cons (pe_ix ix_tup (cR T.g_bridge_of ok_bridge_of (hr.mono (by decide)) (by rfl) (pa_cons (pv 0) (pa_cons (pv 1) (pa_cons (pv 2) pa_nil)))) pe_int (fun _ _ => rfl)) pa_nil)))))), ?_⟩
    refine ⟨_, rfl, _, rfl, a1, a2, x :: X', Y, rfl, h1, h2, hl, fun p H1 e1 hp e2 => ?_⟩
    refine ⟨_, rfl, p, _, rfl, .inr (SqT.of e2), _, _, rfl, rfl, _, rfl, ?_⟩
    rw [tv_length]
    by_cases hc : TwM.cap (x :: X') Y = []
    · rw [hc]
      refine iteF ?_
      refine ⟨_, rfl, _, rfl, _, rfl, D, t, a1, a2, x, X', Y, rfl, TA.mono e1, e1 _ _ h1, e1 _ _ h2, n2, s1, s2, fun r hr' => ?_⟩
      refine ⟨r, _, _, _, rfl, rfl, SqT.of upd_same, atI_nat (j := 1) rfl, by show 1 ≤ sizeLine; decide, fun p2 hp2 => ?_⟩
      have e3 := Same.upd' (same_upd (o := HO.tup [V.str (TwM.gate D.d (x :: X') (TwM.gate D.d Y x)), .str (TwM.gate D.d Y x)]) hr') hp2 (o := HO.tup [V.str (TwM.gate D.d Y x)])
      refine q p2 _ (e1.trans e3) (e1.free ((same_upd hr').free hp2)) ?_
      rw [TwM.aft_apart rfl hc]
      exact upd_same
    · have hlen : 0 < (TwM.cap (x :: X') Y).length := List.length_pos_iff.mpr hc
      refine ite2 (fun _ => ?_) (fun z => absurd (decide_eq_true (by omega)) z)
      refine ⟨_, rfl, ?_⟩
      refine q p _ e1 hp ?_
      rw [TwM.aft_meet hc]
      exact e2
end
end Tw
namespace Tw
open PySem PySem.Spec PyProof.Rows L2
section
variable {P : Program} {w : World} {K : PySem.W.Frag} {mg : Str → Option Value} {base : Heap} {a : Ads}
theorem lettersV (T : Txt P K mg a) : ∃ u, mg "LETTERS" = some u ∧ RelV (.str "abcdefghijklmnopqrstuvwxyz") u := by
  obtain ⟨t, h⟩ := T.letters
  exact ⟨_, h, t, rfl⟩
theorem dp_strs {H : Hp} : ∀ (l : List Str), DpAll K H (tv l) (l.map PyData.str)
  | [] => .nil
  | x :: r => .cons (.str x) (dp_strs r)
theorem eqv_strs : ∀ (l r : List Str), PyData.eqvAll (l.map PyData.str) (r.map PyData.str) = decide (l = r)
  | [], [] => rfl
  | [], y :: r => rfl
  | x :: l, [] => rfl
  | x :: l, y :: r => by
    have ih := eqv_strs l r
    show (PyData.eqv (.str x) (.str y) && PyData.eqvAll (l.map PyData.str) (r.map PyData.str)) = _
    rw [ih]
    show ((x == y) && decide (l = r)) = _
    rw [Bool.eq_iff_iff, Bool.and_eq_true, decide_eq_true_iff, decide_eq_true_iff, beq_iff_eq, List.cons.injEq]
theorem canLay_strs : ∀ {l : List Str}, (∀ x ∈ l, PyData.strOk x = true) → PyData.canLayAll0 (l.map PyData.str) = true
  | [], _ => rfl
  | x :: r, h => by
    show (PyData.canLay0 (.str x) && PyData.canLayAll0 (r.map PyData.str)) = true
    rw [canLay_strs fun y hy => h y (List.mem_cons_of_mem _ hy), Bool.and_true]
    have := h x List.mem_cons_self
    simpa [PyData.canLay0] using this
theorem depth_strs : ∀ (l : List Str), PyData.depthAll (l.map PyData.str) = 0
  | [] => rfl
  | _ :: r => by simp [PyData.depthAll, PyData.depth, depth_strs r]
theorem shaped_strs {l : List Str} (h : ∀ x ∈ l, PyData.strOk x = true) : SeqAt.shaped (.tuple (l.map PyData.str)) = true := by
  simp [SeqAt.shaped, PyData.canLay0, PyData.depth, canLay_strs h, depth_strs]
theorem small_len {n m : Nat} (h : n = m) (hm : m < 1000) : n < 1000 := h ▸ hm
theorem ty_grove (T : Txt P K mg a) {H : Hp} {C g dx : Addr} {fs : List (Str × V)} (h : GC a C) (e : H g = some (.ins C dx fs)) : TyX K H (.ref g) (.ref C) :=
  have y := T.gty C h
  .base (.ins e (T.gcl C h) y.ha y.hn y.htk y.hm)
theorem ty_tree (T : Txt P K mg a) {H : Hp} {t dx : Addr} {fs : List (Str × V)} (e : H t = some (.ins a.c_Tree dx fs)) : TyX K H (.ref t) (.ref a.c_Tree) :=
  have y := T.tty
  .base (.ins e T.cl_Tree y.ha y.hn y.htk y.hm)
theorem TreeAt.all {D : TD} {H : Hp} {t : Addr} (TA : TreeAt a D H t) : ∃ (dx : Addr) (fs : List (Str × V)) (aP nd : Addr) (na : Str → Addr), H t = some (.ins a.c_Tree dx fs) ∧ fs.lookup ("own_places" : Str) = some (.ref aP) ∧ H aP = some (.tup (tv D.ps)) ∧
    fs.lookup ("near" : Str) = some (.ref nd) ∧ H nd = some (.dK (dkv D.ps fun p => .ref (na p))) := by
  obtain ⟨dx, aP, aE, nd, gd, na, ga, h1, h2, h3, h4, h5, h6⟩ := TA.ex
  exact ⟨dx, _, aP, nd, na, h1, treeFs_places, h2, treeFs_near, h3⟩
theorem ok_TreeX_containsX (T : Txt P K mg a) : FnR P w K mg base CX0 1 a.f_TreeX_containsX (spTIn a) := by
  obtain ⟨fd, F⟩ := T.F_TreeX_containsX
  refine okR F sc_TreeX_containsX (fun vs H Q E h => ?_) (fun _ _ _ _ _ _ us hl => match us, hl with | [_, _], _ => rfl) (fun cdv A outer s H vs Q E hr h => ?_)
  · obtain ⟨D, t, x, rfl, _⟩ := h
    rfl
  · obtain ⟨D, t, x, rfl, TA, q⟩ := h
    have hu := hu_of hr
    obtain ⟨dx, fs, aP, h1, h2, h3⟩ := TA.places
    refine ⟨_, (pss_one (ps_ret (pe_cmpR op_in_seq (pv 1) (pe_fld (pv 0) rfl) (by rfl)))), ?_⟩
    refine ⟨_, rfl, _, rfl, t, _, dx, fs, _, rfl, h1, T.cl_Tree, T.na_own_places, h2, aP, _, rfl, .inr (SqT.of h3), rfl, tv_flat _, ?_⟩
    show Q (.bl (inV (.str x) (tv D.ps))) H
    rw [tv_in]
    exact q
theorem ok_TreeX_eqX (T : Txt P K mg a) : FnR P w K mg base CX0 1 a.f_TreeX_eqX (spTEq a) := by
  obtain ⟨fd, F⟩ := T.F_TreeX_eqX
  refine okR F sc_TreeX_eqX (fun vs H Q E h => ?_) (fun _ _ _ _ _ _ us hl => match us, hl with | [_, _], _ => rfl) (fun cdv A outer s H vs Q E hr h => ?_)
  · obtain ⟨D, t, rfl, _⟩ := h
    rfl
  · obtain ⟨D, t, rfl, TA, q⟩ := h
    have hu := hu_of hr
    obtain ⟨dx, fs, aP, nd, na, h1, h2, h3, h4, h5⟩ := TA.all
    refine ⟨_, (pss_one (ps_ret (pe_and (pe_callB call_isi (by rfl) T.n_isinstance (by decide +kernel) (pa_cons (pv 1) (pa_cons (pe_glob (v := .ref a.c_Tree) (u := .ref a.c_Tree) (by rfl) T.mg_Tree rfl) pa_nil))) (pe_and (pe_cmpR (op_eqD hr.units) (pe_fld (pv 0) rfl) (pe_fld (pv 1) rfl) (nomark _)) (pe_one (pe_cmpR (op_eqV hr.units) (pe_fld (pv 0) rfl) (pe_fld (pv 1) rfl) (nomark _))))))), ?_⟩
    refine ⟨_, rfl, _, _, _, _, true, rfl, .own _, ty_tree T h1, T.tki, _, rfl, ?_⟩
    refine iteT ?_
    refine ⟨_, rfl, t, _, dx, fs, _, rfl, h1, T.cl_Tree, T.na_own_places, h2, _, rfl, t, _, dx, fs, _, rfl, h1, T.cl_Tree, T.na_own_places, h2, ?_⟩
    have so := shaped_strs fun x hx => (D.word x hx).ok
    refine ⟨_, _, .tup (SqT.of h3) (dp_strs _), .tup (SqT.of h3) (dp_strs _), so, so, true, ?_⟩
    rw [show PyData.eqv (.tuple (D.ps.map PyData.str)) (.tuple (D.ps.map PyData.str)) = true from by show PyData.eqvAll _ _ = true; rw [eqv_strs]; exact decide_eq_true rfl]
    refine ⟨rfl, iteT ?_⟩
    refine ⟨_, rfl, t, _, dx, fs, _, rfl, h1, T.cl_Tree, T.na_near, h4, _, rfl, t, _, dx, fs, _, rfl, h1, T.cl_Tree, T.na_near, h4, ?_⟩
    refine ⟨1, by decide, .inr ⟨nd, nd, _, _, rfl, rfl, h5, h5, rfl, fun p hp => ?_⟩, q⟩
    obtain ⟨x, hx, rfl⟩ := List.mem_map.mp hp
    exact ⟨_, dkv_at hx, .inr (.inl ⟨_, rfl, rfl⟩)⟩
theorem ok_need_tree (T : Txt P K mg a) : FnR P w K mg base CX0 2 a.f_need_tree (spNeedTree a) := by
  obtain ⟨fd, F⟩ := T.F_need_tree
  have ok_TreeX_eqX := ok_TreeX_eqX (P := P) (w := w) (base := base) T
  refine okR F sc_need_tree (fun vs H Q E h => ?_) (fun _ _ _ _ _ _ us hl => match us, hl with | [_, _], _ => rfl) (fun cdv A outer s H vs Q E hr h => ?_)
  · obtain ⟨D, t, g1, g2, A, B, rfl, _⟩ := h
    rfl
  · obtain ⟨D, t, g1, g2, X, Y, rfl, TA, G1, G2, q⟩ := h
    have hu := hu_of hr
    obtain ⟨C1, dx1, o1, fs1, c1, h1, l1, m1, n1, _⟩ := G1.ex
    obtain ⟨C2, dx2, o2, fs2, c2, h2, l2, m2, n2, _⟩ := G2.ex
    obtain ⟨dx, fs, aP, nd, na, ht, _⟩ := TA.all
    refine ⟨_, (pss_one (ps_if (pt_not (pt_cmpR (op_eqI T.fn_TreeX_eqX ok_TreeX_eqX (hr.mono (by decide))) (pe_fld (pv 0) rfl) (pe_fld (pv 1) rfl) (nomark _))) (pss_one ps_never) pss_nil)), ?_⟩
    refine ⟨_, rfl, g1, _, dx1, fs1, _, rfl, h1, T.gcl _ c1, T.gna_own_tree _ c1, l1, _, rfl, g2, _, dx2, fs2, _, rfl, h2, T.gcl _ c2, T.gna_own_tree _ c2, l2, ?_⟩
    refine ⟨t, t, _, _, dx, dx, fs, fs, rfl, rfl, ht, ht, T.teq, T.teq, .inl rfl, ⟨D, t, rfl, TA, ?_⟩, ⟨D, t, rfl, TA, ?_⟩⟩
    · exact ⟨_, rfl, _, rfl, iteF q⟩
    · exact ⟨_, rfl, _, rfl, iteF q⟩
theorem ok_need_some (T : Txt P K mg a) : FnR P w K mg base CX0 1 a.f_need_some (spNeedSome a) := by
  obtain ⟨fd, F⟩ := T.F_need_some
  refine okR F sc_need_some (fun vs H Q E h => ?_) (fun _ _ _ _ _ _ us hl => match us, hl with | [_, _], _ => rfl) (fun cdv A outer s H vs Q E hr h => ?_)
  · obtain ⟨t, g1, g2, A, B, rfl, _⟩ := h
    rfl
  · obtain ⟨t, g1, g2, X, Y, rfl, G1, G2, nx, ny, q⟩ := h
    have hu := hu_of hr
    obtain ⟨C1, dx1, o1, fs1, c1, h1, l1, m1, n1, _⟩ := G1.ex
    obtain ⟨C2, dx2, o2, fs2, c2, h2, l2, m2, n2, _⟩ := G2.ex
    have e0 : ∀ {Z : List Str}, Z ≠ [] → decide (V.int ((tv Z).length : Int) = V.int 0) = false := fun {Z} hz => by
      rw [tv_length]
      have := List.length_pos_iff.mpr hz
      exact decide_eq_false fun e => by have := V.int.inj e; omega
    refine ⟨_, (pss_one (ps_if (PW.pt (pw_or (pt_cmpR op_eq (pe_callB call_len_seq (by rfl) T.n_len PySem.boot_len (pa_cons (pe_fld (pv 0) rfl) pa_nil)) pe_int (nomark _)) (pw_or1 (pt_cmpR op_eq (pe_callB call_len_seq (by rfl) T.n_len PySem.boot_len (pa_cons (pe_fld (pv 1) rfl) pa_nil)) pe_int (nomark _))))) (pss_one ps_never) pss_nil)), ?_⟩
    refine ⟨_, rfl, g1, _, dx1, fs1, _, rfl, h1, T.gcl _ c1, T.gna_own _ c1, m1, o1, _, rfl, .inr (SqT.of n1), ?_⟩
    refine ⟨rfl, _, rfl, ?_⟩
    rw [e0 nx]
    refine iteF ?_
    refine ⟨_, rfl, g2, _, dx2, fs2, _, rfl, h2, T.gcl _ c2, T.gna_own _ c2, m2, o2, _, rfl, .inr (SqT.of n2), ?_⟩
    refine ⟨rfl, _, rfl, ?_⟩
    rw [e0 ny]
    exact iteF q
theorem ok_MadeX_initX (T : Txt P K mg a) : FnR P w K mg base CX0 1 a.f_MadeX_initX (spMadeInit a) := by
  obtain ⟨fd, F⟩ := T.F_MadeX_initX
  refine okR F sc_MadeX_initX (fun vs H Q E h => ?_) (fun _ _ _ _ _ _ us hl => match us, hl with | [_, _, _], _ => rfl) (fun cdv A outer s H vs Q E hr h => ?_)
  · obtain ⟨g, t, aS, dx, rfl, _⟩ := h
    rfl
  · obtain ⟨g, t, aS, dx, rfl, h1, q⟩ := h
    have hu := hu_of hr
    have gm : GC a a.c_Made := .inr (.inl rfl)
    refine ⟨_, (pss_cons (ps_fld (pv 0) (pv 1) rfl)
  (pss_one (ps_fld (pv 0) (pv 2) rfl))), ?_⟩
    refine ⟨_, rfl, _, rfl, g, _, dx, _, rfl, h1, T.cl_Made, T.gna_own_tree _ gm, small_len (m := 0) (by kernel_rfl) (by decide), ?_⟩
    refine ⟨_, rfl, _, rfl, g, _, dx, _, rfl, upd_same, T.cl_Made, T.gna_own _ gm, small_len (m := 1) (by kernel_rfl) (by decide), ?_⟩
    rw [upd_upd]
    exact q
theorem ok_made (T : Txt P K mg a) : FnR P w K mg base CX0 3 a.f_made (spMade a) := by
  obtain ⟨fd, F⟩ := T.F_made
  have ok_MadeX_initX := ok_MadeX_initX (P := P) (w := w) (base := base) T
  refine okR F sc_made (fun vs H Q E h => ?_) (fun _ _ _ _ _ _ us hl => match us, hl with | [_, _], _ => rfl) (fun cdv A outer s H vs Q E hr h => ?_)
  · obtain ⟨t, aS, S, rfl, _⟩ := h
    rfl
  · obtain ⟨t, aS, S, rfl, h1, q⟩ := h
    have hu := hu_of hr
    have gm : GC a a.c_Made := .inr (.inl rfl)
    refine ⟨_, (pss_one (ps_ret (StX.pe_makeR T.mk_Made ok_MadeX_initX (hr.mono (by decide)) (by rfl) T.mg_Made pass0 (pa_cons (pv 0) (pa_cons (pv 1) pa_nil))))), ?_⟩
    refine ⟨_, rfl, _, rfl, fun g dx hg hd hne => ⟨g, t, aS, dx, rfl, upd_same, rfl, ?_⟩⟩
    rw [upd_upd]
    have e1 : Same H (upd H dx (.own g)) := same_upd hd
    have hg1 : upd H dx (.own g) g = none := by rw [upd_ne (Ne.symm hne)]; exact hg
    have e2 := Same.upd' (o := HO.ins a.c_Made dx [("own_tree", V.ref t), ("own", .ref aS)]) e1 hg1
    exact q g _ e2 hg ⟨a.c_Made, dx, aS, _, gm, upd_same, rfl, rfl, e2 _ _ h1, by kernel_rfl, by kernel_rfl⟩
theorem ok_GroveX_lenX (T : Txt P K mg a) : FnR P w K mg base CX0 1 a.f_GroveX_lenX (spLen a) := by
  obtain ⟨fd, F⟩ := T.F_GroveX_lenX
  refine okR F sc_GroveX_lenX (fun vs H Q E h => ?_) (fun _ _ _ _ _ _ us hl => match us, hl with | [_], _ => rfl) (fun cdv A outer s H vs Q E hr h => ?_)
  · obtain ⟨t, g, S, rfl, _⟩ := h
    rfl
  · obtain ⟨t, g, S, rfl, G, q⟩ := h
    have hu := hu_of hr
    obtain ⟨C1, dx1, o1, fs1, c1, h1, l1, m1, n1, _⟩ := G.ex
    refine ⟨_, (pss_one (ps_ret (pe_callB call_len_seq (by rfl) T.n_len PySem.boot_len (pa_cons (pe_fld (pv 0) rfl) pa_nil)))), ?_⟩
    refine ⟨_, rfl, g, _, dx1, fs1, _, rfl, h1, T.gcl _ c1, T.gna_own _ c1, m1, o1, _, rfl, .inr (SqT.of n1), ?_⟩
    rw [tv_length]
    exact q
theorem ok_GroveX_containsX (T : Txt P K mg a) : FnR P w K mg base CX0 1 a.f_GroveX_containsX (spContains a) := by
  obtain ⟨fd, F⟩ := T.F_GroveX_containsX
  refine okR F sc_GroveX_containsX (fun vs H Q E h => ?_) (fun _ _ _ _ _ _ us hl => match us, hl with | [_, _], _ => rfl) (fun cdv A outer s H vs Q E hr h => ?_)
  · obtain ⟨t, g, S, x, rfl, _⟩ := h
    rfl
  · obtain ⟨t, g, S, x, rfl, G, q⟩ := h
    have hu := hu_of hr
    obtain ⟨C1, dx1, o1, fs1, c1, h1, l1, m1, n1, _⟩ := G.ex
    refine ⟨_, (pss_one (ps_ret (pe_and (pe_callB call_isi (by rfl) T.n_isinstance (by decide +kernel) (pa_cons (pv 1) (pa_cons (pe_bltn (v := .ty "str") (u := .type "str") (by rfl) T.n_str (by decide +kernel) rfl) pa_nil))) (pe_one (pe_cmpR op_in_seq (pv 1) (pe_fld (pv 0) rfl) (by rfl)))))), ?_⟩
    refine ⟨_, rfl, _, _, _, _, true, rfl, .ty _, .base (.str x), kit_ty (by decide +kernel), _, rfl, ?_⟩
    refine iteT ?_
    refine ⟨_, rfl, _, rfl, g, _, dx1, fs1, _, rfl, h1, T.gcl _ c1, T.gna_own _ c1, m1, o1, _, rfl, .inr (SqT.of n1), rfl, tv_flat _, ?_⟩
    show Q (.bl (inV (.str x) (tv S))) H
    rw [tv_in]
    exact q
theorem ok_GroveX_eqX (T : Txt P K mg a) : FnR P w K mg base CX0 2 a.f_GroveX_eqX (spGEq a) := by
  obtain ⟨fd, F⟩ := T.F_GroveX_eqX
  have ok_TreeX_eqX := ok_TreeX_eqX (P := P) (w := w) (base := base) T
  refine okR F sc_GroveX_eqX (fun vs H Q E h => ?_) (fun _ _ _ _ _ _ us hl => match us, hl with | [_, _], _ => rfl) (fun cdv A outer s H vs Q E hr h => ?_)
  · obtain ⟨D, t, g1, g2, X, Y, rfl, _⟩ := h
    rfl
  · obtain ⟨D, t, g1, g2, X, Y, rfl, TA, G1, G2, sx, sy, q⟩ := h
    have hu := hu_of hr
    obtain ⟨C1, dx1, o1, fs1, c1, h1, l1, m1, n1, _⟩ := G1.ex
    obtain ⟨C2, dx2, o2, fs2, c2, h2, l2, m2, n2, _⟩ := G2.ex
    obtain ⟨dx, fs, aP, nd, na, ht, _⟩ := TA.all
    refine ⟨_, (pss_one (ps_ret (pe_and (pe_callB call_isi (by rfl) T.n_isinstance (by decide +kernel) (pa_cons (pv 1) (pa_cons (pe_glob (v := .ref a.c_Grove) (u := .ref a.c_Grove) (by rfl) T.mg_Grove rfl) pa_nil))) (pe_and (pe_cmpR (op_eqI T.fn_TreeX_eqX ok_TreeX_eqX (hr.mono (by decide))) (pe_fld (pv 0) rfl) (pe_fld (pv 1) rfl) (nomark _)) (pe_one (pe_cmpR (op_eqD hr.units) (pe_fld (pv 0) rfl) (pe_fld (pv 1) rfl) (nomark _))))))), ?_⟩
    refine ⟨_, rfl, _, _, _, _, true, rfl, .own _, ty_grove T c2 h2, T.gki _ c2, _, rfl, ?_⟩
    refine iteT ?_
    refine ⟨_, rfl, g1, _, dx1, fs1, _, rfl, h1, T.gcl _ c1, T.gna_own_tree _ c1, l1, _, rfl, g2, _, dx2, fs2, _, rfl, h2, T.gcl _ c2, T.gna_own_tree _ c2, l2, ?_⟩
    have s1 := shaped_strs fun x hx => (D.word x (sx x hx)).ok
    have s2 := shaped_strs fun x hx => (D.word x (sy x hx)).ok
    have fin : Q (.bl (PyData.eqv (.tuple (X.map PyData.str)) (.tuple (Y.map PyData.str)))) H := by
      rw [show PyData.eqv (.tuple (X.map PyData.str)) (.tuple (Y.map PyData.str)) = decide (X = Y) from eqv_strs X Y]
      exact q
    refine ⟨t, t, _, _, dx, dx, fs, fs, rfl, rfl, ht, ht, T.teq, T.teq, .inl rfl, ⟨D, t, rfl, TA, ?_⟩, ⟨D, t, rfl, TA, ?_⟩⟩ <;>
    · refine ⟨_, rfl, _, rfl, iteT ?_⟩
      exact ⟨_, rfl, g1, _, dx1, fs1, _, rfl, h1, T.gcl _ c1, T.gna_own _ c1, m1, _, rfl, g2, _, dx2, fs2, _, rfl, h2, T.gcl _ c2, T.gna_own _ c2, m2, _, _, .tup (SqT.of n1) (dp_strs _), .tup (SqT.of n2) (dp_strs _), s1, s2, fin⟩
end
end Tw
namespace Tw
open PySem PySem.Spec PyProof.Rows L2
section
variable {P : Program} {w : World} {K : PySem.W.Frag} {mg : Str → Option Value} {base : Heap} {a : Ads}
theorem GrD.len {D : TD} {S : List Str} (g : GrD D S) : S.length ≤ 40 := by
  rw [g.ord]
  exact Nat.le_trans (List.length_filter_le _ _) D.small
theorem GroveAt.flds (T : Txt P K mg a) {H : Hp} {t g : Addr} {S : List Str} (G : GroveAt a H t g S) : ∃ (C dx aO : Addr) (fs : List (Str × V)), H g = some (.ins C dx fs) ∧ Cls K C ∧ NoAttr K C "own_tree" ∧ NoAttr K C "own" ∧ fs.lookup ("own_tree" : Str) = some (.ref t) ∧ fs.lookup ("own" : Str) = some (.ref aO) ∧ H aO = some (.tup (tv S)) := by
  obtain ⟨C, dx, aO, fs, h0, h1, h2, h3, h4, h5⟩ := G.ex
  exact ⟨C, dx, aO, fs, h1, T.gcl _ h0, T.gna_own_tree _ h0, T.gna_own _ h0, h2, h3, h4⟩
theorem ok_GroveX_rshiftX (T : Txt P K mg a) : FnR P w K mg base CX0 4 a.f_GroveX_rshiftX (spShift a) := by
  obtain ⟨fd, F⟩ := T.F_GroveX_rshiftX
  have ok_need_tree := ok_need_tree (P := P) (w := w) (base := base) T
  have ok_need_some := ok_need_some (P := P) (w := w) (base := base) T
  have ok_made := ok_made (P := P) (w := w) (base := base) T
  have ok_after := ok_after (P := P) (w := w) (base := base) T
  refine okR F sc_GroveX_rshiftX (fun vs H Q E h => ?_) (fun _ _ _ _ _ _ us hl => match us, hl with | [_, _], _ => rfl) (fun cdv A outer s H vs Q E hr h => ?_)
  · obtain ⟨D, t, g1, g2, A, B, rfl, _⟩ := h
    rfl
  · obtain ⟨D, t, g1, g2, X, Y, rfl, TA, G1, G2, x, y, q⟩ := h
    have hu := hu_of hr
    obtain ⟨C1, dx1, o1, fs1, h1, c1, na1, nb1, l1, m1, n1⟩ := G1.flds T
    obtain ⟨C2, dx2, o2, fs2, h2, c2, na2, nb2, l2, m2, n2⟩ := G2.flds T
    refine ⟨_, (pss_cons (ps_expr (cR T.g_need_tree ok_need_tree (hr.mono (by decide)) (by rfl) (pa_cons (pv 0) (pa_cons (pv 1) pa_nil))))
  (pss_cons (ps_expr (cR T.g_need_some ok_need_some (hr.mono (by decide)) (by rfl) (pa_cons (pv 0) (pa_cons (pv 1) pa_nil))))
  (pss_one (ps_ret (cR T.g_made ok_made (hr.mono (by decide)) (by rfl) (pa_cons (pe_fld (pv 0) rfl) (pa_cons (cR T.g_after ok_after (hr.mono (by decide)) (by rfl) (pa_cons (pe_fld (pv 0) rfl) (pa_cons (pe_fld (pv 0) rfl) (pa_cons (pe_fld (pv 1) rfl) pa_nil)))) pa_nil))))))), ?_⟩
    refine ⟨_, rfl, _, rfl, D, t, g1, g2, X, Y, rfl, TA, G1, G2, ?_⟩
    refine ⟨_, rfl, _, rfl, t, g1, g2, X, Y, rfl, G1, G2, x.ne, y.ne, ?_⟩
    refine ⟨_, rfl, g1, _, dx1, fs1, _, rfl, h1, c1, na1, l1, ?_⟩
    refine ⟨_, rfl, g1, _, dx1, fs1, _, rfl, h1, c1, na1, l1, ?_⟩
    refine ⟨_, rfl, g1, _, dx1, fs1, _, rfl, h1, c1, nb1, m1, ?_⟩
    refine ⟨_, rfl, g2, _, dx2, fs2, _, rfl, h2, c2, nb2, m2, ?_⟩
    refine ⟨D, t, o1, o2, X, Y, rfl, TA, n1, n2, x.ne, y.ne, x.len, fun z hz => x.sub hz, fun z hz => y.sub hz, fun p H1 e1 hp hq => ?_⟩
    refine ⟨t, p, _, rfl, hq, fun g H2 e2 hg G => q g H2 (e1.trans e2) (e1.free hg) G⟩
theorem ok_GroveX_callX (T : Txt P K mg a) : FnR P w K mg base CX0 2 a.f_GroveX_callX (spGCall a) := by
  obtain ⟨fd, F⟩ := T.F_GroveX_callX
  have ok_TreeX_containsX := ok_TreeX_containsX (P := P) (w := w) (base := base) T
  have ok_gate_of := ok_gate_of (P := P) (w := w) (base := base) T
  refine okR F sc_GroveX_callX (fun vs H Q E h => ?_) (fun _ _ _ _ _ _ us hl => match us, hl with | [_, _], _ => rfl) (fun cdv A outer s H vs Q E hr h => ?_)
  · obtain ⟨D, t, g, S, x, rfl, _⟩ := h
    rfl
  · obtain ⟨D, t, g, S, x, rfl, TA, G, y, hx, q⟩ := h
    have hu := hu_of hr
    obtain ⟨C1, dx1, o1, fs1, h1, c1, na1, nb1, l1, m1, n1⟩ := G.flds T
    obtain ⟨dx, fs, aP, nd, na, ht, _⟩ := TA.all
    refine ⟨_, (pss_cons (ps_if (pt_cmpR (op_notInI T.fn_TreeX_containsX ok_TreeX_containsX (hr.mono (by decide))) (pv 1) (pe_fld (pv 0) rfl) (by rfl)) (pss_one ps_never) pss_nil)
  (pss_cons (ps_if (pt_cmpR op_eq (pe_callB call_len_seq (by rfl) T.n_len PySem.boot_len (pa_cons (pe_fld (pv 0) rfl) pa_nil)) pe_int (nomark _)) (pss_one ps_never) pss_nil)
  (pss_one (ps_ret (cR T.g_gate_of ok_gate_of (hr.mono (by decide)) (by rfl) (pa_cons (pe_fld (pv 0) rfl) (pa_cons (pe_fld (pv 0) rfl) (pa_cons (pv 1) pa_nil)))))))), ?_⟩
    refine ⟨_, rfl, _, rfl, g, _, dx1, fs1, _, rfl, h1, c1, na1, l1, ?_⟩
    refine ⟨t, _, dx, fs, rfl, ht, T.tin, D, t, x, rfl, TA, ?_⟩
    rw [decide_eq_true hx]
    refine ⟨_, rfl, _, rfl, iteF ?_⟩
    refine ⟨_, rfl, g, _, dx1, fs1, _, rfl, h1, c1, nb1, m1, o1, _, rfl, .inr (SqT.of n1), rfl, _, rfl, ?_⟩
    rw [show decide (V.int ((tv S).length : Int) = V.int 0) = false from by
      rw [tv_length]
      have := List.length_pos_iff.mpr y.ne
      exact decide_eq_false fun e => by have := V.int.inj e; omega]
    refine iteF ?_
    refine ⟨_, rfl, g, _, dx1, fs1, _, rfl, h1, c1, na1, l1, ?_⟩
    refine ⟨_, rfl, g, _, dx1, fs1, _, rfl, h1, c1, nb1, m1, ?_⟩
    refine ⟨_, rfl, D, t, o1, S, x, rfl, TA, n1, y.ne, fun z hz => y.sub hz, hx, q⟩
theorem ok_Grove_bridge (T : Txt P K mg a) : FnR P w K mg base CX0 3 a.f_Grove_bridge (spBridge a) := by
  obtain ⟨fd, F⟩ := T.F_Grove_bridge
  have ok_need_tree := ok_need_tree (P := P) (w := w) (base := base) T
  have ok_need_some := ok_need_some (P := P) (w := w) (base := base) T
  have ok_bridge_of := ok_bridge_of (P := P) (w := w) (base := base) T
  refine okR F sc_Grove_bridge (fun vs H Q E h => ?_) (fun _ _ _ _ _ _ us hl => match us, hl with | [_, _], _ => rfl) (fun cdv A outer s H vs Q E hr h => ?_)
  · obtain ⟨D, t, g1, g2, A, B, rfl, _⟩ := h
    rfl
  · obtain ⟨D, t, g1, g2, X, Y, rfl, TA, G1, G2, x, y, q⟩ := h
    have hu := hu_of hr
    obtain ⟨C1, dx1, o1, fs1, h1, c1, na1, nb1, l1, m1, n1⟩ := G1.flds T
    obtain ⟨C2, dx2, o2, fs2, h2, c2, na2, nb2, l2, m2, n2⟩ := G2.flds T
    obtain ⟨x0, X', rfl⟩ := TwM.ne_cons x.ne
    refine ⟨_, (pss_cons (ps_expr (cR T.g_need_tree ok_need_tree (hr.mono (by decide)) (by rfl) (pa_cons (pv 0) (pa_cons (pv 1) pa_nil))))
  (pss_cons (ps_expr (cR T.g_need_some ok_need_some (hr.mono (by decide)) (by rfl) (pa_cons (pv 0) (pa_cons (pv 1) pa_nil))))
  (pss_cons (ps_asg (cR T.g_bridge_of ok_bridge_of (hr.mono (by decide)) (by rfl) (pa_cons (pe_fld (pv 0) rfl) (pa_cons (pe_fld (pv 0) rfl) (pa_cons (pe_fld (pv 1) rfl) pa_nil)))) (pg_tup rfl (pgs_cons (pg_name (i := 2) sc_Grove_bridge.nd rfl (Or.inl rfl)) (pgs_cons (pg_name (i := 3) sc_Grove_bridge.nd rfl (Or.inl rfl)) pgs_nil))))
  (pss_one (ps_ret (pe_ifExp (pt_cmpR op_eq (pv 2) (pv 3) (nomark _)) pe_non (pe_tup (pa_cons (pv 2) (pa_cons (pv 3) pa_nil))))))))), ?_⟩
    refine ⟨_, rfl, _, rfl, D, t, g1, g2, _, Y, rfl, TA, G1, G2, ?_⟩
    refine ⟨_, rfl, _, rfl, t, g1, g2, _, Y, rfl, G1, G2, x.ne, y.ne, ?_⟩
    refine ⟨_, rfl, g1, _, dx1, fs1, _, rfl, h1, c1, na1, l1, ?_⟩
    refine ⟨_, rfl, g1, _, dx1, fs1, _, rfl, h1, c1, nb1, m1, ?_⟩
    refine ⟨_, rfl, g2, _, dx2, fs2, _, rfl, h2, c2, nb2, m2, ?_⟩
    refine ⟨D, t, o1, o2, x0, X', Y, rfl, TA, n1, n2, y.ne, fun z hz => x.sub hz, fun z hz => y.sub hz, fun p hp => ?_⟩
    refine ⟨p, _, rfl, SqT.of upd_same, rfl, ?_⟩
    have hb := TwM.bridge_iff D.gt.tm x y (x := x0) List.mem_cons_self
    refine ⟨_, _, rfl, _, _, rfl, rfl, ?_⟩
    refine ⟨_, rfl, _, rfl, rfl, _, rfl, ?_⟩
    refine ite2 (fun hc => ?_) (fun hc => ?_)
    · have e : TwM.gate D.d (x0 :: X') (TwM.gate D.d Y x0) = TwM.gate D.d Y x0 := V.str.inj (of_decide_eq_true hc)
      exact q .non _ (same_upd hp) ⟨fun _ => hb.mp e, fun _ => rfl⟩
    · have e : ¬ TwM.gate D.d (x0 :: X') (TwM.gate D.d Y x0) = TwM.gate D.d Y x0 := fun e => hc (decide_eq_true (congrArg V.str e))
      refine ⟨_, rfl, _, rfl, by show 2 ≤ sizeLine; decide, fun p2 hp2 => ?_⟩
      exact q _ _ (Same.upd' (same_upd hp) hp2) ⟨fun z => V.noConfusion z, fun z => absurd (hb.mpr z) e⟩
theorem ok_Grove_sources (T : Txt P K mg a) : FnR P w K mg base CX0 4 a.f_Grove_sources (spSources a) := by
  obtain ⟨fd, F⟩ := T.F_Grove_sources
  have ok_need_tree := ok_need_tree (P := P) (w := w) (base := base) T
  have ok_need_some := ok_need_some (P := P) (w := w) (base := base) T
  have ok_made := ok_made (P := P) (w := w) (base := base) T
  have ok_gate_of := ok_gate_of (P := P) (w := w) (base := base) T
  refine okR F sc_Grove_sources (fun vs H Q E h => ?_) (fun _ _ _ _ _ _ us hl => match us, hl with | [_, _], _ => rfl) (fun cdv A outer s H vs Q E hr h => ?_)
  · obtain ⟨D, t, g1, g2, A, B, rfl, _⟩ := h
    rfl
  · obtain ⟨D, t, g1, g2, X, Y, rfl, TA, G1, G2, x, y, q⟩ := h
    have hu := hu_of hr
    obtain ⟨C1, dx1, o1, fs1, h1, c1, na1, nb1, l1, m1, n1⟩ := G1.flds T
    obtain ⟨C2, dx2, o2, fs2, h2, c2, na2, nb2, l2, m2, n2⟩ := G2.flds T
    obtain ⟨dx, fs, aP, ht, hl, hP⟩ := TA.places
    refine ⟨_, (pss_cons (ps_expr (cR T.g_need_tree ok_need_tree (hr.mono (by decide)) (by rfl) (pa_cons (pv 0) (pa_cons (pv 1) pa_nil))))
  (pss_cons (ps_expr (cR T.g_need_some ok_need_some (hr.mono (by decide)) (by rfl) (pa_cons (pv 0) (pa_cons (pv 1) pa_nil))))
  (pss_cons (ps_set (i := 2) sc_Grove_sources.nd rfl (Or.inr rfl) (pe_fld (pv 0) rfl))
  (pss_one (ps_ret (cR T.g_made ok_made (hr.mono (by decide)) (by rfl) (pa_cons (pv 2) (pa_cons (pe_callTy call_tuple_of (by rfl) T.n_tuple (by decide +kernel) (pa_cons (pe_lc (own := [("place", 3)]) rfl sc_Grove_sources.nd (pi_tup (pe_fld (pv 2) rfl)) (blkOk_by (own := [("place", 3)]) (N := N_Grove_sources) (sc := (defScope s_Grove_sources)) (by decide +kernel)) (fun _ _ _ _ _ => (pg_name (i := 3) sc_Grove_sources.nd rfl (Or.inl rfl))) (fun _ _ _ _ _ => (pts_one (pt_cmpR (op_in_seqK (K := K) rfl) (cR T.g_gate_of ok_gate_of (hr.mono (by decide)) (by rfl) (pa_cons (pv 2) (pa_cons (pe_fldK (K := K) rfl (pv 1) rfl) (pa_cons (pv 3) pa_nil)))) (pe_fldK (K := K) rfl (pv 0) rfl) (by rfl)))) (fun _ _ _ _ _ => (pv 3))) pa_nil)) pa_nil)))))))), ?_⟩
    refine ⟨_, rfl, _, rfl, D, t, g1, g2, _, Y, rfl, TA, G1, G2, ?_⟩
    refine ⟨_, rfl, _, rfl, t, g1, g2, _, Y, rfl, G1, G2, x.ne, y.ne, ?_⟩
    refine ⟨_, rfl, g1, _, dx1, fs1, _, rfl, h1, c1, na1, l1, ?_⟩
    refine ⟨_, rfl, _, rfl, t, _, dx, fs, _, rfl, ht, T.cl_Tree, T.na_own_places, hl, aP, rfl, ⟨_, SqT.of hP⟩, fun B hB => lc_pick (i := 3) (l := D.ps) (fun z => decide (TwM.gate D.d Y z ∈ X)) (walk_tup (K := K) (a := aP)) (fun H' e => SqT.of (e _ _ hP)) (by have := D.small; omega) hB (fun _ => rfl) (fun _ => rfl) (fun z hz H' R e r => ?_) ?_⟩
    · refine ⟨_, rfl, _, rfl, g2, _, dx2, fs2, _, rfl, e _ _ h2, c2, nb2, m2, ?_⟩
      refine ⟨_, rfl, D, t, o2, Y, z, rfl, TA.mono e, e _ _ n2, y.ne, fun u hu => y.sub hu, hz, ?_⟩
      refine ⟨_, rfl, g1, _, dx1, fs1, _, rfl, e _ _ h1, c1, nb1, m1, o1, _, rfl, .inr (SqT.of (e _ _ n1)), rfl, tv_flat _, _, rfl, ?_⟩
      show R (inV (.str _) (tv X)) H'
      rw [tv_in]
      exact r
    · refine ⟨B, _, rfl, .inl ⟨SqL.of upd_same, fun p hp => ?_⟩⟩
      refine ⟨t, p, _, rfl, upd_same, fun g H2 e2 hg G => ?_⟩
      exact q g H2 ((Same.upd' (same_upd hB) hp).trans e2) G
end
end Tw
namespace Tw
open PySem PySem.Spec PyProof.Rows L2
section
variable {P : Program} {w : World} {K : PySem.W.Frag} {mg : Str → Option Value} {base : Heap} {a : Ads}
theorem ok_GroveX_initX (T : Txt P K mg a) : FnR P w K mg base CX0 2 a.f_GroveX_initX (spGInit a) := by
  obtain ⟨fd, F⟩ := T.F_GroveX_initX
  have ok_TreeX_containsX := ok_TreeX_containsX (P := P) (w := w) (base := base) T
  have ok_is_between := ok_is_between (P := P) (w := w) (base := base) T
  refine okR F sc_GroveX_initX (fun vs H Q E h => ?_) (fun _ _ _ _ _ _ us hl => match us, hl with | [_, _, _], _ => rfl) (fun cdv A outer s H vs Q E hr h => ?_)
  · obtain ⟨D, C, g, t, aP, dx, P, S, rfl, _⟩ := h
    rfl
  · obtain ⟨D, C, g, t, aP, dx, R, S, rfl, hC, hg, TA, hP, hsub, eS, gS, q⟩ := h
    have hu := hu_of hr
    obtain ⟨dxt, fst, aO, ht, hl, hO⟩ := TA.places
    refine ⟨_, (pss_cons (ps_for PassesOwn.never rfl (pi_tup (pv 2)) (pg_name (i := 3) sc_GroveX_initX.nd rfl (Or.inl rfl))
    (pss_one (ps_if (pt_cmpR (op_notInI T.fn_TreeX_containsX ok_TreeX_containsX (hr.mono (by decide))) (pv 3) (pv 1) (by rfl)) (pss_one ps_never) pss_nil)))
  (pss_cons (ps_set (i := 4) sc_GroveX_initX.nd rfl (Or.inl rfl) (pe_callTy call_tuple_of (by rfl) T.n_tuple (by decide +kernel) (pa_cons (pe_lc (own := [("place", 3)]) rfl sc_GroveX_initX.nd (pi_tup (pe_fld (pv 1) rfl)) (blkOk_by (own := [("place", 3)]) (N := N_GroveX_initX) (sc := (defScope s_GroveX_initX)) (by decide +kernel)) (fun _ _ _ _ _ => (pg_name (i := 3) sc_GroveX_initX.nd rfl (Or.inl rfl))) (fun _ _ _ _ _ => (pts_one (pt_cmpR (op_in_seqK (K := K) rfl) (pv 3) (pv 2) (by rfl)))) (fun _ _ _ _ _ => (pv 3))) pa_nil)))
  (pss_cons (ps_for PassesOwn.never rfl (pi_tup (pv 4)) (pg_name (i := 5) sc_GroveX_initX.nd rfl (Or.inl rfl))
    (pss_one (ps_for PassesOwn.never rfl (pi_tup (pe_fld (pv 1) rfl)) (pg_name (i := 3) sc_GroveX_initX.nd rfl (Or.inl rfl))
    (pss_one (ps_if (PW.pt (pw_and (pt_val (cR T.g_is_between ok_is_between (hr.mono (by decide)) (by rfl) (pa_cons (pv 1) (pa_cons (pe_ix ix_tup (pv 4) pe_int (fun _ _ => rfl)) (pa_cons (pv 3) (pa_cons (pv 5) pa_nil)))))) (pw_and1 (pt_cmpR op_notIn_seq (pv 3) (pv 4) (by rfl))))) (pss_one ps_never) pss_nil)))))
  (pss_cons (ps_fld (pv 0) (pv 1) rfl)
  (pss_one (ps_fld (pv 0) (pv 4) rfl)))))), ?_⟩
    -- for place in places
    refine ⟨_, rfl, aP, rfl, ⟨_, SqT.of hP⟩, for_tup (K := K) (a := aP) (xs := tv R) (fun i σ H' => H' = H ∧ ∃ (v : Option V), σ = [some (.ref g), some (.ref t), some (.ref aP), v, none, none]) ⟨rfl, none, rfl⟩ (fun i σ H' _ ⟨e, _⟩ => by rw [e]; exact SqT.of hP) ?_ ?_⟩
    · rintro i v σ H' hi ⟨rfl, u, rfl⟩
      obtain ⟨y, hy, rfl⟩ := tv_get hi
      refine ⟨_, rfl, _, rfl, t, _, dxt, fst, rfl, ht, T.tin, D, t, y, rfl, TA, ?_⟩
      rw [decide_eq_true (hsub y (List.mem_of_getElem? hy))]
      exact ⟨_, rfl, _, rfl, iteF ⟨rfl, _, rfl⟩⟩
    · rintro σ H' ⟨rfl, u, rfl⟩
      -- own = tuple([..])
      refine ⟨_, rfl, t, _, dxt, fst, _, rfl, ht, T.cl_Tree, T.na_own_places, hl, aO, rfl, ⟨_, SqT.of hO⟩, fun B hB => lc_pick (i := 3) (l := D.ps) (fun z => decide (z ∈ R)) (walk_tup (K := K) (a := aO)) (fun H2 e => SqT.of (e _ _ hO)) (by have := D.small; omega) hB (fun _ => rfl) (fun _ => rfl) (fun z hz H2 R2 e r => ?_) ?_⟩
      · refine ⟨_, rfl, _, rfl, aP, _, rfl, .inr (SqT.of (e _ _ hP)), rfl, tv_flat _, _, rfl, ?_⟩
        show R2 (inV (.str z) (tv R)) H2
        rw [tv_in]
        exact r
      · rw [← eS]
        refine ⟨B, _, rfl, .inl ⟨SqL.of upd_same, fun p hp => ?_⟩⟩
        have e1 := Same.upd' (o := HO.tup (tv S)) (same_upd (o := HO.lst (tv S)) hB) hp
        generalize hH1 : upd (upd H' B (HO.lst (tv S))) p (HO.tup (tv S)) = H1 at e1 ⊢
        have hS1 : H1 p = some (.tup (tv S)) := by rw [← hH1]; exact upd_same
        have TA1 := TA.mono e1
        -- for other in own
        refine ⟨_, rfl, p, rfl, ⟨_, SqT.of hS1⟩, for_tup (K := K) (a := p) (xs := tv S) (fun i σ H' => H' = H1 ∧ ∃ (v v' : Option V), σ = [some (.ref g), some (.ref t), some (.ref aP), v, some (.ref p), v']) ⟨rfl, _, _, rfl⟩ (fun i σ H' _ ⟨e, _⟩ => by rw [e]; exact SqT.of hS1) ?_ ?_⟩
        · rintro i v σ H2 hi ⟨rfl, u1, u2, rfl⟩
          obtain ⟨y, hy, rfl⟩ := tv_get hi
          have hyS := List.mem_of_getElem? hy
          obtain ⟨x0, S0, eS0⟩ := TwM.ne_cons gS.ne
          have hx0 : x0 ∈ S := by rw [eS0]; exact List.mem_cons_self
          refine ⟨_, rfl, t, _, dxt, fst, _, rfl, e1 _ _ ht, T.cl_Tree, T.na_own_places, hl, aO, rfl, ⟨_, SqT.of (e1 _ _ hO)⟩, for_tup (K := K) (a := aO) (xs := tv D.ps) (fun i σ H' => H' = H2 ∧ ∃ (v : Option V), σ = [some (.ref g), some (.ref t), some (.ref aP), v, some (.ref p), some (.str y)]) ⟨rfl, _, rfl⟩ (fun i σ H' _ ⟨e, _⟩ => by rw [e]; exact SqT.of (e1 _ _ hO)) ?_ ?_⟩
          · rintro i' v' σ' H3 hi' ⟨rfl, u', rfl⟩
            obtain ⟨z, hz, rfl⟩ := tv_get hi'
            have hzp := List.mem_of_getElem? hz
            refine ⟨_, rfl, _, rfl, p, _, _, _, rfl, rfl, SqT.of hS1, atI_nat (j := 0) (tv_at (x := x0) (by rw [eS0]; rfl)), _, rfl, _, rfl, D, t, x0, z, y, rfl, TA1, gS.sub hx0, hzp, gS.sub hyS, ?_⟩
            refine ⟨_, rfl, ?_⟩
            by_cases hb : D.d x0 z + D.d z y = D.d x0 y
            · rw [decide_eq_true hb]
              refine iteT ⟨_, rfl, _, rfl, p, _, rfl, .inr (SqT.of hS1), rfl, tv_flat _, ?_⟩
              have hzS := gS.cvx x0 hx0 y hyS z hzp hb
              refine ⟨_, rfl, ?_⟩
              show if (!inV (V.str z) (tv S)) = true then _ else _
              rw [tv_in, decide_eq_true hzS]
              exact iteF ⟨rfl, _, rfl⟩
            · rw [decide_eq_false hb]
              exact iteF (iteF ⟨rfl, _, rfl⟩)
          · rintro σ' H3 ⟨rfl, u', rfl⟩
            exact ⟨rfl, _, _, rfl⟩
        · rintro σ H2 ⟨rfl, u1, u2, rfl⟩
          have hg1 := e1 _ _ hg
          refine ⟨_, rfl, _, rfl, g, _, dx, _, rfl, hg1, T.gcl _ hC, T.gna_own_tree _ hC, small_len (m := 0) (by kernel_rfl) (by decide), ?_⟩
          refine ⟨_, rfl, _, rfl, g, _, dx, _, rfl, upd_same, T.gcl _ hC, T.gna_own _ hC, small_len (m := 1) (by kernel_rfl) (by decide), ?_⟩
          rw [upd_upd]
          refine q p _ (fun b o hb hne => ?_) upd_same ?_
          · rw [upd_ne hne]
            exact e1 _ _ hb
          · have : p ≠ g := fun e => by
              rw [e, hg1] at hS1
              cases hS1
            rw [upd_ne this]
            exact hS1
end
end Tw
namespace Tw
open PySem PySem.Spec PyProof.Rows L2
section
variable {P : Program} {w : World} {K : PySem.W.Frag} {mg : Str → Option Value} {base : Heap} {a : Ads}
theorem ok_need_places_shapes (T : Txt P K mg a) : FnR P w K mg base CX0 2 a.f_need_places_shapes (spStar (spNP a) 1) := by
  obtain ⟨fd, F⟩ := T.F_need_places_shapes
  have ok_TreeX_containsX := ok_TreeX_containsX (P := P) (w := w) (base := base) T
  obtain ⟨oc, od, kV, doc, pm, an, cdv, ct, osl, rfl, lk, hcd⟩ := F.ex
  refine StX.fn_star (ps := ["tree"]) (pv := "places") lk hcd sc_need_places_shapes StX.cxUp_none (fun us rest hl => match us, rest, hl with | [_], [], _ => rfl | [_], _ :: _, _ => rfl) (fun A outer s H vs Q E hr h => ?_)
  obtain ⟨D, t, p, xs, rfl, TA, hp, hs, q⟩ := h
  have hu := hu_of hr
  obtain ⟨dxt, fst, aO, ht, hl, hO⟩ := TA.places
  have body : ∀ G : Hp → Prop, ∃ t', PSs (cxOf CX0 P w K mg base N_need_places_shapes "need_places" (defScope s_need_places_shapes) a.f_need_places_shapes cdv A outer s H E).nox (defBody s_need_places_shapes) t' ∧ t' { nx := fun _ H' => Q .non H', rt := Q } (start N_need_places_shapes [.ref t, .ref p]) H := fun _ => by
   refine ⟨_, (pss_one (ps_for PassesOwn.never rfl (pi_tup (pv 1)) (pg_name (i := 2) sc_need_places_shapes.nd rfl (Or.inl rfl))
    (pss_one (ps_if (pt_cmpR (op_notInI T.fn_TreeX_containsX ok_TreeX_containsX (hr.mono (by decide))) (pv 2) (pv 0) (by rfl)) (pss_one ps_never) pss_nil)))), ?_⟩
   refine ⟨_, rfl, p, rfl, ⟨_, SqT.of hp⟩, for_tup (K := K) (a := p) (xs := tv xs) (fun i σ H' => H' = H ∧ ∃ (v : Option V), σ = [some (.ref t), some (.ref p), v]) ⟨rfl, none, rfl⟩ (fun i σ H' _ ⟨e, _⟩ => by rw [e]; exact SqT.of hp) ?_ ?_⟩
   · rintro i v σ H' hi ⟨rfl, u, rfl⟩
     obtain ⟨y, hy, rfl⟩ := tv_get hi
     refine ⟨_, rfl, _, rfl, t, _, dxt, fst, rfl, ht, T.tin, D, t, y, rfl, TA, ?_⟩
     rw [decide_eq_true (hs y (List.mem_of_getElem? hy))]
     exact ⟨_, rfl, _, rfl, iteF ⟨rfl, _, rfl⟩⟩
   · rintro σ H' ⟨rfl, u, rfl⟩
     exact q
  obtain ⟨t', h1, h2⟩ := body fun _ => True
  exact ⟨t', h1.nox, h2⟩
theorem ok_LengthX_initX (T : Txt P K mg a) : FnR P w K mg base CX0 1 a.f_LengthX_initX (spLength a) := by
  obtain ⟨fd, F⟩ := T.F_LengthX_initX
  refine okR F sc_LengthX_initX (fun vs H Q E h => ?_) (fun _ _ _ _ _ _ us hl => match us, hl with | [_, _], _ => rfl) (fun cdv A outer s H vs Q E hr h => ?_)
  · obtain ⟨g, dx, n, rfl, _⟩ := h
    rfl
  · obtain ⟨g, dx, n, rfl, h1, q⟩ := h
    have hu := hu_of hr
    refine ⟨_, (pss_cons (ps_fld (pv 0) (pe_ifExp (pt_cmpR op_isN (pv 1) pe_non (nomark _)) pe_int pe_int) rfl)
  (pss_one (ps_fld (pv 0) (pe_ifExp (pt_cmpR op_isN (pv 1) pe_non (nomark _)) pe_int (pv 1)) rfl))), ?_⟩
    refine ⟨_, rfl, rfl, _, rfl, iteF ?_⟩
    refine ⟨_, rfl, g, _, dx, _, rfl, h1, T.cl_Length, T.na_rank, small_len (m := 0) (by kernel_rfl) (by decide), ?_⟩
    refine ⟨_, rfl, rfl, _, rfl, iteF ?_⟩
    refine ⟨_, rfl, _, rfl, g, _, dx, _, rfl, upd_same, T.cl_Length, T.na_size, small_len (m := 1) (by kernel_rfl) (by decide), ?_⟩
    rw [upd_upd]
    exact q
theorem ok_within (T : Txt P K mg a) : FnR P w K mg base CX0 1 a.f_within (spWithin a) := by
  obtain ⟨fd, F⟩ := T.F_within
  refine okR F sc_within (fun vs H Q E h => ?_) (fun _ _ _ _ _ _ us hl => match us, hl with | [_, _], _ => rfl) (fun cdv A outer s H vs Q E hr h => ?_)
  · obtain ⟨l, dx, n, m, rfl, _⟩ := h
    rfl
  · obtain ⟨l, dx, n, m, rfl, h1, q⟩ := h
    have hu := hu_of hr
    refine ⟨_, (pss_one (ps_ret (pe_or (pe_cmpR op_eq (pe_fld (pv 1) rfl) pe_int (nomark _)) (pe_one (pe_cmpR op_le (pv 0) (pe_fld (pv 1) rfl) (nomark _)))))), ?_⟩
    refine ⟨_, rfl, l, _, dx, lenFs m, .int 0, rfl, h1, T.cl_Length, T.na_rank, by kernel_rfl, rfl, _, rfl, ?_⟩
    refine iteF ?_
    exact ⟨_, rfl, _, rfl, l, _, dx, lenFs m, .int m, rfl, h1, T.cl_Length, T.na_size, by kernel_rfl, _, _, rfl, rfl, q⟩
theorem ok_WholeX_initX (T : Txt P K mg a) : FnR P w K mg base CX0 3 a.f_WholeX_initX (spWhole a) := by
  have ok_GroveX_initX := ok_GroveX_initX (P := P) (w := w) (base := base) T
  refine okS T.F_WholeX_initX sc_WholeX_initX (fun vs H Q E h => ?_) (fun _ _ _ _ _ us hl => match us, hl with | [_, _], _ => rfl) (fun A outer s H vs Q E hr h => ?_)
  · obtain ⟨D, g, t, dx, rfl, _⟩ := h
    rfl
  · obtain ⟨D, g, t, dx, rfl, h1, TA, q⟩ := h
    have hu := hu_of hr
    obtain ⟨dxt, fst, aO, ht, hl, hO⟩ := TA.places
    have gc : GC a a.c_Whole := .inr (.inr (.inr (.inr (.inr rfl))))
    refine ⟨_, (pssAt_cons /-SUP-/(ps_sup (qual := "Whole.__init__") (scope := defScope s_WholeX_initX) (s0 := s) rfl T.SF_WholeX_initX ok_GroveX_initX (hr.mono (by decide)) T.n_super (by decide +kernel) (by decide +kernel) (by decide +kernel) rfl rfl (by rfl) (by decide) T.ptop T.ginit_ty T.ginit_fn (pa_cons (pv 1) (pa_cons (pe_fld (pv 1) rfl) pa_nil)) rfl)
  (pssAt_rest pss_nil)), ?_⟩
    refine ⟨g, _, dx, _, rfl, h1, T.SC_WholeX_initX, _, rfl, _, rfl, t, _, dxt, fst, _, rfl, ht, T.cl_Tree, T.na_own_places, hl, ?_⟩
    have e : D.ps = D.ps.filter (fun x => decide (x ∈ D.ps)) := by
      rw [List.filter_eq_self.mpr fun x hx => decide_eq_true hx]
    have g0 : GrD D D.ps := ⟨e, D.ne, TwM.cvx_all D.gt.tm⟩
    refine ⟨D, _, g, t, aO, dx, D.ps, D.ps, rfl, gc, h1, TA, hO, fun x hx => hx, e, g0, fun aO' H' b e1 e2 => ?_⟩
    exact q H' aO' _ b e1 (by kernel_rfl) (by kernel_rfl) e2 (by kernel_rfl) (by kernel_rfl)
theorem ok_WayX_initX (T : Txt P K mg a) : FnR P w K mg base CX0 3 a.f_WayX_initX (spWay a) := by
  have ok_GroveX_initX := ok_GroveX_initX (P := P) (w := w) (base := base) T
  have ok_is_between := ok_is_between (P := P) (w := w) (base := base) T
  have ok_need_places_shapes := ok_need_places_shapes (P := P) (w := w) (base := base) T
  refine okS T.F_WayX_initX sc_WayX_initX (fun vs H Q E h => ?_) (fun _ _ _ _ _ us hl => match us, hl with | [_, _, _, _], _ => rfl) (fun A outer s H vs Q E hr h => ?_)
  · obtain ⟨D, g, t, dx, u, v, rfl, _⟩ := h
    rfl
  · obtain ⟨D, g, t, dx, u, v, rfl, h1, TA, hx, hy, q⟩ := h
    have hu := hu_of hr
    obtain ⟨dxt, fst, aO, ht, hl, hO⟩ := TA.places
    have gc : GC a a.c_Way := .inr (.inr (.inr (.inr (.inl rfl))))
    generalize eS : D.ps.filter (fun x => decide (D.d u x + D.d x v = D.d u v)) = S at q
    have mS : ∀ x, x ∈ S ↔ x ∈ D.ps ∧ D.d u x + D.d x v = D.d u v := fun x => by rw [← eS, List.mem_filter, decide_eq_true_iff]
    have gS : GrD D S := by
      rw [← eS]
      refine TwM.Gr.of_filter ?_ ?_ <;> rw [eS]
      · exact fun z => by have := (mS u).mpr ⟨hx, by rw [D.gt.tm.self u hx, Nat.zero_add]⟩; rw [z] at this; simp at this
      · exact TwM.cvx_way D.gt.tm hx hy mS
    refine ⟨_, (pssAt_cons (.of (ps_expr (cR T.g_need_places_shapes ok_need_places_shapes (hr.mono (by decide)) (by rfl) (pa_cons (pv 1) (pa_cons (pv 2) (pa_cons (pv 3) pa_nil))))))
  (pssAt_cons /-SUP-/(ps_sup (qual := "Way.__init__") (scope := defScope s_WayX_initX) (s0 := s) rfl T.SF_WayX_initX ok_GroveX_initX (hr.mono (by decide)) T.n_super (by decide +kernel) (by decide +kernel) (by decide +kernel) rfl rfl (by rfl) (by decide) T.ptop T.ginit_ty T.ginit_fn (pa_cons (pv 1) (pa_cons (pe_callTy call_tuple_of (by rfl) T.n_tuple (by decide +kernel) (pa_cons (pe_lc (own := [("place", 4)]) rfl sc_WayX_initX.nd (pi_tup (pe_fld (pv 1) rfl)) (blkOk_by (own := [("place", 4)]) (N := N_WayX_initX) (sc := (defScope s_WayX_initX)) (by decide +kernel)) (fun _ _ _ _ _ => (pg_name (i := 4) sc_WayX_initX.nd rfl (Or.inl rfl))) (fun _ _ _ _ _ => (pts_one (pt_val (cR T.g_is_between ok_is_between (hr.mono (by decide)) (by rfl) (pa_cons (pv 1) (pa_cons (pv 2) (pa_cons (pv 4) (pa_cons (pv 3) pa_nil)))))))) (fun _ _ _ _ _ => (pv 4))) pa_nil)) pa_nil)) rfl)
  (pssAt_cons (.of (ps_fld (pv 0) (pe_tup (pa_cons (pv 2) (pa_cons (pv 3) pa_nil))) rfl))
  (pssAt_rest pss_nil)))), ?_⟩
    refine ⟨_, rfl, _, rfl, _, rfl, [V.ref t], [V.str u, .str v], rfl, rfl, by show 2 ≤ sizeLine; decide, fun p hp => ?_⟩
    have e1 := same_upd (o := HO.tup [V.str u, .str v]) hp
    refine ⟨D, t, p, [u, v], rfl, TA.mono e1, upd_same, fun x hx' => by simp only [List.mem_cons, List.not_mem_nil, or_false] at hx'; rcases hx' with rfl | rfl <;> assumption, ?_⟩
    generalize upd H p (HO.tup [V.str u, .str v]) = H1 at e1
    refine ⟨g, _, dx, _, rfl, e1 _ _ h1, T.SC_WayX_initX, _, rfl, ?_⟩
    refine ⟨_, rfl, t, _, dxt, fst, _, rfl, e1 _ _ ht, T.cl_Tree, T.na_own_places, hl, aO, rfl, ⟨_, SqT.of (e1 _ _ hO)⟩, fun B hB => lc_pick (i := 4) (l := D.ps) (fun x => decide (D.d u x + D.d x v = D.d u v)) (walk_tup (K := K) (a := aO)) (fun H2 e => SqT.of (e _ _ (e1 _ _ hO))) (by have := D.small; omega) hB (fun _ => rfl) (fun _ => rfl) (fun z hz H2 R2 e r => ?_) ?_⟩
    · exact ⟨_, rfl, _, rfl, _, rfl, _, rfl, D, t, u, z, v, rfl, TA.mono (e1.trans e), hx, hz, hy, _, rfl, r⟩
    · rw [eS]
      refine ⟨B, _, rfl, .inl ⟨SqL.of upd_same, fun p2 hp2 => ?_⟩⟩
      have e2 := e1.trans (Same.upd' (o := HO.tup (tv S)) (same_upd (o := HO.lst (tv S)) hB) hp2)
      generalize hH2 : upd (upd H1 B (HO.lst (tv S))) p2 (HO.tup (tv S)) = H2 at e2
      refine ⟨D, _, g, t, p2, dx, S, S, rfl, gc, e2 _ _ h1, TA.mono e2, by rw [← hH2]; exact upd_same, fun x hx => gS.sub hx, gS.ord, gS, fun aO' H' b f1 f2 => ?_⟩
      refine ⟨_, rfl, _, rfl, by show 2 ≤ sizeLine; decide, fun p3 hp3 => ?_⟩
      have e3 := same_upd (o := HO.tup [V.str u, .str v]) hp3
      refine ⟨_, rfl, g, _, dx, _, rfl, e3 _ _ f1, T.cl_Way, T.na_own_ends, small_len (m := 2) (by kernel_rfl) (by decide), ?_⟩
      have ne : aO' ≠ g := fun e => by rw [e, f1] at f2; cases f2
      refine q _ aO' _ ?_ upd_same (by kernel_rfl) (by kernel_rfl) (by rw [upd_ne ne]; exact e3 _ _ f2) (by kernel_rfl) (by kernel_rfl)
      exact But.upd (fun c o h n => e3 _ _ ((Same.but e2 b) c o h n))
theorem ok_BranchX_initX (T : Txt P K mg a) : FnR P w K mg base CX0 3 a.f_BranchX_initX (spBranch a) := by
  have ok_GroveX_initX := ok_GroveX_initX (P := P) (w := w) (base := base) T
  have ok_is_between := ok_is_between (P := P) (w := w) (base := base) T
  have ok_need_places_shapes := ok_need_places_shapes (P := P) (w := w) (base := base) T
  refine okS T.F_BranchX_initX sc_BranchX_initX (fun vs H Q E h => ?_) (fun _ _ _ _ _ us hl => match us, hl with | [_, _, _, _], _ => rfl) (fun A outer s H vs Q E hr h => ?_)
  · obtain ⟨D, g, t, dx, u, v, rfl, _⟩ := h
    rfl
  · obtain ⟨D, g, t, dx, u, v, rfl, h1, TA, hE, q⟩ := h
    have hu := hu_of hr
    obtain ⟨hx, hy⟩ := D.gt.edge_mem hE
    have hd : D.d u v = 1 := by
      rcases D.gt.adj.step u hx u v hE with e | e
      · rw [D.gt.tm.self u hx] at e; omega
      · rw [D.gt.tm.self u hx] at e; omega
    obtain ⟨dxt, fst, aO, ht, hl, hO⟩ := TA.places
    have gc : GC a a.c_Branch := .inr (.inr (.inr (.inl rfl)))
    generalize eS : D.ps.filter (fun x => decide (D.d u v + D.d v x = D.d u x)) = S at q
    have mS : ∀ x, x ∈ S ↔ x ∈ D.ps ∧ D.d u v + D.d v x = D.d u x := fun x => by rw [← eS, List.mem_filter, decide_eq_true_iff]
    have gS : GrD D S := by
      rw [← eS]
      refine TwM.Gr.of_filter ?_ ?_ <;> rw [eS]
      · exact fun z => by have := (mS v).mpr ⟨hy, by rw [D.gt.tm.self v hy, Nat.add_zero]⟩; rw [z] at this; simp at this
      · exact TwM.cvx_branch D.gt.tm hx hy hd (fun s hs => D.gt.adj.step s hs u v hE) mS
    refine ⟨_, (pssAt_cons (.of (ps_expr (cR T.g_need_places_shapes ok_need_places_shapes (hr.mono (by decide)) (by rfl) (pa_cons (pv 1) (pa_cons (pv 2) (pa_cons (pv 3) pa_nil))))))
  (pssAt_cons (.of (ps_if (pt_cmpR op_ne (pe_dget hu (pe_dget hu (pe_fld (pv 1) rfl) (pv 2) (fun _ _ => rfl)) (pv 3) (fun _ _ => rfl)) pe_int (nomark _)) (pss_one ps_never) pss_nil))
  (pssAt_cons /-SUP-/(ps_sup (qual := "Branch.__init__") (scope := defScope s_BranchX_initX) (s0 := s) rfl T.SF_BranchX_initX ok_GroveX_initX (hr.mono (by decide)) T.n_super (by decide +kernel) (by decide +kernel) (by decide +kernel) rfl rfl (by rfl) (by decide) T.ptop T.ginit_ty T.ginit_fn (pa_cons (pv 1) (pa_cons (pe_callTy call_tuple_of (by rfl) T.n_tuple (by decide +kernel) (pa_cons (pe_lc (own := [("place", 4)]) rfl sc_BranchX_initX.nd (pi_tup (pe_fld (pv 1) rfl)) (blkOk_by (own := [("place", 4)]) (N := N_BranchX_initX) (sc := (defScope s_BranchX_initX)) (by decide +kernel)) (fun _ _ _ _ _ => (pg_name (i := 4) sc_BranchX_initX.nd rfl (Or.inl rfl))) (fun _ _ _ _ _ => (pts_one (pt_val (cR T.g_is_between ok_is_between (hr.mono (by decide)) (by rfl) (pa_cons (pv 1) (pa_cons (pv 2) (pa_cons (pv 3) (pa_cons (pv 4) pa_nil)))))))) (fun _ _ _ _ _ => (pv 4))) pa_nil)) pa_nil)) rfl)
  (pssAt_cons (.of (ps_fld (pv 0) (pv 3) rfl))
  (pssAt_rest pss_nil))))), ?_⟩
    refine ⟨_, rfl, _, rfl, _, rfl, [V.ref t], [V.str u, .str v], rfl, rfl, by show 2 ≤ sizeLine; decide, fun p hp => ?_⟩
    have e1 := same_upd (o := HO.tup [V.str u, .str v]) hp
    refine ⟨D, t, p, [u, v], rfl, TA.mono e1, upd_same, fun x hx' => by simp only [List.mem_cons, List.not_mem_nil, or_false] at hx'; rcases hx' with rfl | rfl <;> assumption, ?_⟩
    generalize upd H p (HO.tup [V.str u, .str v]) = H1 at e1
    refine rd_gaps T (TA.mono e1) hx hy rfl rfl rfl ?_
    refine ⟨rfl, _, rfl, ?_⟩
    rw [show (!decide (V.int (D.d u v : Int) = V.int 1)) = false from by rw [hd]; rfl]
    refine iteF ?_
    refine ⟨g, _, dx, _, rfl, e1 _ _ h1, T.SC_BranchX_initX, _, rfl, ?_⟩
    refine ⟨_, rfl, t, _, dxt, fst, _, rfl, e1 _ _ ht, T.cl_Tree, T.na_own_places, hl, aO, rfl, ⟨_, SqT.of (e1 _ _ hO)⟩, fun B hB => lc_pick (i := 4) (l := D.ps) (fun x => decide (D.d u v + D.d v x = D.d u x)) (walk_tup (K := K) (a := aO)) (fun H2 e => SqT.of (e _ _ (e1 _ _ hO))) (by have := D.small; omega) hB (fun _ => rfl) (fun _ => rfl) (fun z hz H2 R2 e r => ?_) ?_⟩
    · exact ⟨_, rfl, _, rfl, _, rfl, _, rfl, D, t, u, v, z, rfl, TA.mono (e1.trans e), hx, hy, hz, _, rfl, r⟩
    · rw [eS]
      refine ⟨B, _, rfl, .inl ⟨SqL.of upd_same, fun p2 hp2 => ?_⟩⟩
      have e2 := e1.trans (Same.upd' (o := HO.tup (tv S)) (same_upd (o := HO.lst (tv S)) hB) hp2)
      generalize hH2 : upd (upd H1 B (HO.lst (tv S))) p2 (HO.tup (tv S)) = H2 at e2
      refine ⟨D, _, g, t, p2, dx, S, S, rfl, gc, e2 _ _ h1, TA.mono e2, by rw [← hH2]; exact upd_same, fun x hx => gS.sub hx, gS.ord, gS, fun aO' H' b f1 f2 => ?_⟩
      refine ⟨_, rfl, _, rfl, g, _, dx, _, rfl, f1, T.cl_Branch, T.na_own_root, small_len (m := 2) (by kernel_rfl) (by decide), ?_⟩
      have ne : aO' ≠ g := fun e => by rw [e, f1] at f2; cases f2
      exact q _ aO' _ (But.upd (Same.but e2 b)) upd_same (by kernel_rfl) (by kernel_rfl) (by rw [upd_ne ne]; exact f2) (by kernel_rfl) (by kernel_rfl)
theorem ok_BallX_initX (T : Txt P K mg a) : FnR P w K mg base CX0 3 a.f_BallX_initX (spBall a) := by
  have ok_GroveX_initX := ok_GroveX_initX (P := P) (w := w) (base := base) T
  have ok_within := ok_within (P := P) (w := w) (base := base) T
  have ok_LengthX_initX := ok_LengthX_initX (P := P) (w := w) (base := base) T
  have ok_need_places_shapes := ok_need_places_shapes (P := P) (w := w) (base := base) T
  refine okS T.F_BallX_initX sc_BallX_initX (fun vs H Q E h => ?_) (fun _ _ _ _ _ us hl => match us, hl with | [_, _, _, _], _ => rfl) (fun A outer s H vs Q E hr h => ?_)
  · obtain ⟨D, g, t, dx, c, r, rfl, _⟩ := h
    rfl
  · obtain ⟨D, g, t, dx, c, r, rfl, h1, TA, hx, hr0, q⟩ := h
    have hu := hu_of hr
    obtain ⟨dxt, fst, aO, ht, hl, hO⟩ := TA.places
    have gc : GC a a.c_Ball := .inr (.inr (.inl rfl))
    generalize eS : D.ps.filter (fun x => decide ((D.d c x : Int) ≤ r)) = S at q
    have mS : ∀ x, x ∈ S ↔ x ∈ D.ps ∧ (D.d c x : Int) ≤ r := fun x => by rw [← eS, List.mem_filter, decide_eq_true_iff]
    have gS : GrD D S := by
      rw [← eS]
      refine TwM.Gr.of_filter ?_ ?_ <;> rw [eS]
      · exact fun z => by have := (mS c).mpr ⟨hx, by rw [D.gt.tm.self c hx]; exact hr0⟩; rw [z] at this; simp at this
      · exact TwM.cvx_ball D.gt.tm hx r mS
    refine ⟨_, (pssAt_cons (.of (ps_expr (cR T.g_need_places_shapes ok_need_places_shapes (hr.mono (by decide)) (by rfl) (pa_cons (pv 1) (pa_cons (pv 2) pa_nil)))))
  (pssAt_cons (.of (ps_set (i := 4) sc_BallX_initX.nd rfl (Or.inr rfl) (pe_ifExp (pt_val (pe_callB call_isi (by rfl) T.n_isinstance (by decide +kernel) (pa_cons (pv 3) (pa_cons (pe_glob (v := .ref a.c_Length) (u := .ref a.c_Length) (by rfl) T.mg_Length rfl) pa_nil)))) (pv 3) (StX.pe_makeR T.mk_Length ok_LengthX_initX (hr.mono (by decide)) (by rfl) T.mg_Length pass0 (pa_cons (pv 3) pa_nil)))))
  (pssAt_cons (.of (ps_set (i := 5) sc_BallX_initX.nd rfl (Or.inr rfl) (pe_dget hu (pe_fld (pv 1) rfl) (pv 2) (fun _ _ => rfl))))
  (pssAt_cons /-SUP-/(ps_sup (qual := "Ball.__init__") (scope := defScope s_BallX_initX) (s0 := s) rfl T.SF_BallX_initX ok_GroveX_initX (hr.mono (by decide)) T.n_super (by decide +kernel) (by decide +kernel) (by decide +kernel) rfl rfl (by rfl) (by decide) T.ptop T.ginit_ty T.ginit_fn (pa_cons (pv 1) (pa_cons (pe_callTy call_tuple_of (by rfl) T.n_tuple (by decide +kernel) (pa_cons (pe_lc (own := [("place", 6)]) rfl sc_BallX_initX.nd (pi_tup (pe_fld (pv 1) rfl)) (blkOk_by (own := [("place", 6)]) (N := N_BallX_initX) (sc := (defScope s_BallX_initX)) (by decide +kernel)) (fun _ _ _ _ _ => (pg_name (i := 6) sc_BallX_initX.nd rfl (Or.inl rfl))) (fun _ _ _ _ _ => (pts_one (pt_val (cR T.g_within ok_within (hr.mono (by decide)) (by rfl) (pa_cons (pe_dget hu (pv 5) (pv 6) (fun _ _ => rfl)) (pa_cons (pv 4) pa_nil)))))) (fun _ _ _ _ _ => (pv 6))) pa_nil)) pa_nil)) rfl)
  (pssAt_cons (.of (ps_fld (pv 0) (pv 2) rfl))
  (pssAt_cons (.of (ps_fld (pv 0) (pv 4) rfl))
  (pssAt_rest pss_nil))))))), ?_⟩
    refine ⟨_, rfl, _, rfl, [V.ref t], [V.str c], rfl, rfl, by show 1 ≤ sizeLine; decide, fun p hp => ?_⟩
    have e1 := same_upd (o := HO.tup [V.str c]) hp
    refine ⟨D, t, p, [c], rfl, TA.mono e1, upd_same, fun x hx' => by simp only [List.mem_cons, List.not_mem_nil, or_false] at hx'; subst hx'; exact hx, ?_⟩
    generalize upd H p (HO.tup [V.str c]) = H1 at e1
    refine ⟨_, rfl, _, _, _, _, false, rfl, .own _, .base (.int r), T.lki, _, rfl, iteF ?_⟩
    refine ⟨_, rfl, fun l ld hl0 hld hne => ⟨l, ld, r, rfl, upd_same, rfl, ?_⟩⟩
    rw [upd_upd]
    have e2 : Same H1 (upd H1 ld (.own l)) := same_upd hld
    have e3 := e1.trans (Same.upd' (o := HO.ins a.c_Length ld (lenFs r)) e2 (by rw [upd_ne (Ne.symm hne)]; exact hl0))
    have hL : upd (upd H1 ld (.own l)) l (HO.ins a.c_Length ld (lenFs r)) l = some (.ins a.c_Length ld (lenFs r)) := upd_same
    generalize upd (upd H1 ld (.own l)) l (HO.ins a.c_Length ld (lenFs r)) = H2 at e3 hL
    obtain ⟨dx', fs', gd, ga, k1, k2, k3, k4⟩ := (TA.mono e3).gaps
    obtain ⟨kvs, q1, q2⟩ := k4 c hx
    refine ⟨_, rfl, t, _, dx', fs', _, rfl, k1, T.cl_Tree, T.na_gaps, k2, _, rfl, gd, _, rfl, dget k3 (dkv_at hx), ?_⟩
    refine ⟨g, _, dx, _, rfl, e3 _ _ h1, T.SC_BallX_initX, _, rfl, ?_⟩
    refine ⟨_, rfl, t, _, dxt, fst, _, rfl, e3 _ _ ht, T.cl_Tree, T.na_own_places, hl, aO, rfl, ⟨_, SqT.of (e3 _ _ hO)⟩, fun B hB => lc_pick (i := 6) (l := D.ps) (fun x => decide ((D.d c x : Int) ≤ r)) (walk_tup (K := K) (a := aO)) (fun H2 e => SqT.of (e _ _ (e3 _ _ hO))) (by have := D.small; omega) hB (fun _ => rfl) (fun _ => rfl) (fun z hz H3 R2 e rr => ?_) ?_⟩
    · exact ⟨_, rfl, _, rfl, _, _, rfl, dget (e _ _ q1) (q2 z hz), _, rfl, l, ld, _, r, rfl, e _ _ hL, _, rfl, rr⟩
    · rw [eS]
      refine ⟨B, _, rfl, .inl ⟨SqL.of upd_same, fun p2 hp2 => ?_⟩⟩
      have e4 := e3.trans (Same.upd' (o := HO.tup (tv S)) (same_upd (o := HO.lst (tv S)) hB) hp2)
      generalize hH2 : upd (upd H2 B (HO.lst (tv S))) p2 (HO.tup (tv S)) = H4 at e4
      refine ⟨D, _, g, t, p2, dx, S, S, rfl, gc, e4 _ _ h1, TA.mono e4, by rw [← hH2]; exact upd_same, fun x hx => gS.sub hx, gS.ord, gS, fun aO' H' b f1 f2 => ?_⟩
      refine ⟨_, rfl, _, rfl, g, _, dx, _, rfl, f1, T.cl_Ball, T.na_own_centre, small_len (m := 2) (by kernel_rfl) (by decide), ?_⟩
      refine ⟨_, rfl, _, rfl, g, _, dx, _, rfl, upd_same, T.cl_Ball, T.na_own_radius, small_len (m := 3) (by kernel_rfl) (by decide), ?_⟩
      rw [upd_upd]
      have ne : aO' ≠ g := fun e => by rw [e, f1] at f2; cases f2
      exact q _ aO' _ (But.upd (Same.but e4 b)) upd_same (by kernel_rfl) (by kernel_rfl) (by rw [upd_ne ne]; exact f2) (by kernel_rfl) (by kernel_rfl)
end
end Tw
/-! enumerate over a tuple; comprehensions -/
namespace Tw
open PySem PySem.Spec PyProof.Rows L2
theorem meets_enumerate_new1 {v : Value} {o : Obj} {H : Heap → Prop} (B : Begins v o H) :
    Meets (Builtin.«enumerate.__new__» ⟨[.type "enumerate", v], []⟩) (fun _ R s => H s.heap ∧
      R (.ok (.ret (.ref (s.heap.push o).objs.size))) { s with heap := (s.heap.push o).push { cls := .type "enumerate", data := .fields #[.none, .bool false, .ref s.heap.objs.size, rawInt 0, .none, .none] } }) :=
  .of_wp fun prog w A R s h => by
    obtain ⟨hp, g, d, tk, os⟩ := s; obtain ⟨h1, h⟩ := h
    have hsub := sub_enumerate
    have q1 : ∀ {A' : Around} {E : Value → Shared → Prop} {Q : Value → Shared → Prop}, Q (.ref hp.objs.size) ⟨hp.push o, g, d, tk, os⟩ → wpAny (model prog w) A' (pyIter v) Q E ⟨hp, g, d, tk, os⟩ :=
      fun q => B.iter prog w _ _ ⟨hp, g, d, tk, os⟩ _ h1 q
    wp_walk using q1
    refine wpAny_stack_any fun st => wpAny_pure ?_
    split
    · rename_i c _ _ _ _ _
      cases (c == Value.type "enumerate")
      · wp_walk using q1
        exact ⟨_, rfl, h⟩
      · wp_walk using q1
        exact ⟨_, rfl, h⟩
    · wp_walk using q1
      exact ⟨_, rfl, h⟩
section
variable {prog : Program} {w : World} {A : Around} {E : Value → Shared → Prop} {s : Shared}
theorem enum_begins1 {v : Value} {o : Obj} {H : Heap → Prop} {Q : Value → Shared → Prop} (B : Begins v o H) (h1 : H s.heap)
    (h : ∀ h', IsEnum h' (s.heap.objs.size + 1) s.heap.objs.size 0 .none → h'.get? s.heap.objs.size = some o → h'.objs.size = s.heap.objs.size + 2 →
      (∀ b o, s.heap.get? b = some o → h'.get? b = some o) → Q (.ref (s.heap.objs.size + 1)) { s with heap := h' }) :
    wpAny (model prog w) A (call (.type "enumerate") [v]) Q E s := by
  refine callType_new F.called_enumerate (by decide) (F.typeCall_enumerate_1 _) (F.newCall_enumerate_1 _) (fun obj => F.args_object_init_2 obj _) F.entry_enumerate_new
    (meets_enumerate_new1 B) ⟨h1, ?_⟩
  have hz : (s.heap.push o).objs.size = s.heap.objs.size + 1 := Heap.size_push ..
  show _ ∧ _
  rw [hz]
  have he : IsEnum ((s.heap.push o).push { cls := .type "enumerate", data := .fields #[.none, .bool false, .ref s.heap.objs.size, rawInt 0, .none, .none] }) (s.heap.objs.size + 1) s.heap.objs.size 0 .none := by
    have := Heap.get?_push_size (s.heap.push o) (o := { cls := .type "enumerate", data := .fields #[.none, .bool false, .ref s.heap.objs.size, rawInt 0, .none, .none] }) rfl
    rw [hz] at this; exact this
  refine ⟨⟨_, he, rfl⟩, h _ he (Heap.get?_push_of_some _ (Heap.get?_push_size _ B.free)) (by rw [Heap.size_push, hz]) fun b o x => Heap.get?_push_of_some _ (Heap.get?_push_of_some _ x)⟩
end
/-- the tuple at a, each item in a new pair -/
def IteT (K : PySem.W.Frag) (a : Addr) : It :=
  ⟨fun i H => ∃ (xs : List V) (x : V), SqT K H a xs ∧ xs[i]? = some x, fun i H v H' => ∃ T x, v = .ref T ∧ H T = none ∧ H' = upd H T (.tup [.int (i : Nat), x]) ∧ ∀ xs, SqT K H a xs → xs[i]? = some x, fun i H => ∃ xs : List V, SqT K H a xs ∧ xs.length = i⟩
theorem turn_enumT {P : Program} {w : World} {K : PySem.W.Frag} {elts : List Expr} {kk : Nat} {tpos : Pos} (a e it : Addr) :
    Turn P w K (.Tuple elts kk tpos) (IteT K a) [e, it] e (fun i h => (∃ old, IsEnum h e it ((i : Nat) : Int) old) ∧ h.IsTupleIter it a i ∧ e ≠ it ∧ a ≠ it ∧ e ≠ a) where
  mem := by simp
  obj := fun i h st b hb => by
    obtain ⟨⟨old, he⟩, ⟨o, ho, hc, hd⟩, _⟩ := st
    have e' : b = e ∨ b = it := by simpa using hb
    rcases e' with z | z
    · rw [z]; exact ⟨_, he, fun v q => nomatch q⟩
    · rw [z]; exact ⟨o, ho, fun v q => by rw [hd] at q; cases q⟩
  keep := fun i h h' st k => let ⟨⟨old, he⟩, hi, hne⟩ := st; ⟨⟨old, k e (by simp) _ he⟩, hi.at fun o q => k it (by simp) o q, hne⟩
  item := by
    intro X hP hw hK hc i pins s σ H E I hf st hg
    subst hP hw hK
    obtain ⟨⟨old, he⟩, hit, hne, hai, hea⟩ := st
    obtain ⟨xs, x, hq, hx⟩ := hg
    obtain ⟨its, rv, p, hz⟩ := I.tuple hq
    obtain ⟨u, hu, ru⟩ := rv.get hx
    have hel : e < s.heap.objs.size := Heap.lt_size he
    have hil : it < s.heap.objs.size := by obtain ⟨_, q, _⟩ := hit; exact Heap.lt_size q
    have D := Draws.tuple (prog := X.prog) (w := X.w) (A := X.A.in1) (I.ok.hd hc) it a hai its.toArray
    have hi' : its.toArray[i]? = some u := by simpa using hu
    have hlt : i < its.toArray.size := by
      rcases Nat.lt_or_ge i its.toArray.size with z | z
      · exact z
      · rw [Array.getElem?_eq_none z] at hi'; cases hi'
    refine wpAny_pyNext_enum_itemD D he ⟨hit, (show s.heap.IsTuple a its.toArray from p)⟩ hlt hne (by simp [hne, hea]) fun x' h' tk hx' ho hit' hT hsz hk => ?_
    have ex : x' = u := by
      have hx'' : its.toArray[i]? = some x' := hx'
      rw [hi'] at hx''; exact (Option.some.inj hx'').symm
    subst ex
    refine ⟨_, rfl, wpAny_letOwnedTupleGo_enum (s := { s with heap := h', toks := tk + 1 }) ho fun h'' he' sb => ?_⟩
    have hT2 : h''.get? s.heap.objs.size = some { cls := .type "tuple", data := .seq #[.int i tk, x'] } := (sb.2 _ (Nat.ne_of_gt hel)).trans hT
    have new : ObjOk X.prog X.w (upd H s.heap.objs.size (.tup [.int (i : Nat), x])) h'' s.heap.objs.size (.tup [.int (i : Nat), x]) :=
      ⟨by show 2 ≤ sizeLine; decide, [.int i tk, x'], .cons ⟨_, rfl⟩ (.cons ru .nil), ⟨_, hT2, rfl, _, rfl⟩⟩
    have I1 : Inv X pins σ (upd H s.heap.objs.size (.tup [.int (i : Nat), x])) { s with heap := h'', toks := tk + 1 } :=
      I.turnedNew (ch := [e, it]) (fun b ob hb q => (sb.2 b (fun z => hb (by simp [z]))).trans (hk b ob (fun z => hb (by simp [z])) (fun z => hb (by simp [z])) q)) hf (Nat.le_refl _) new
    refine ⟨.ref s.heap.objs.size, _, I1, rfl, ⟨_, x, rfl, I.hok.fresh (Nat.le_refl _), rfl, fun ys hy => by rw [I.tuple_inj hy hq]; exact hx⟩, ⟨⟨x', ?_⟩, hit'.1.at fun o q => (sb.2 it (Ne.symm hne)).trans q, hne, hai, hea⟩, fun b hb => ?_⟩
    · have e1 : ((i + 1 : Nat) : Int) = (i : Int) + 1 := by omega
      rw [e1]; exact he'
    · have hb' : b < s.heap.objs.size := by
        have e' : b = e ∨ b = it := by simpa using hb
        rcases e' with z | z
        · rw [z]; exact hel
        · rw [z]; exact hil
      rw [upd_ne (Nat.ne_of_lt hb')]
      exact (hf b hb).1
  done := by
    intro X hP hw hK hc i pins s σ H E I hf st hg
    subst hP hw hK
    obtain ⟨⟨old, he⟩, hit, hne, hai, hea⟩ := st
    obtain ⟨xs, hq, hx⟩ := hg
    obtain ⟨its, rv, p, hz⟩ := I.tuple hq
    obtain ⟨f0, f1, f2, f3, f4, f5⟩ := hf it (by simp)
    have hl := rv.length
    have D := Draws.tuple (prog := X.prog) (w := X.w) (A := X.A.in1) (I.ok.hd hc) it a hai its.toArray
    have en : its.toArray.size = i := by simp; omega
    refine wpAny_pyNext_enum_endD D he ⟨by rw [en]; exact hit, (show s.heap.IsTuple a its.toArray from p)⟩ fun h' eb => ⟨rfl, I.turned (t' := s.toks) (fun b o hb q => eb b o hb q) f0 f1 f3 f4 f5⟩
  self := fun A i s Q E st h => let ⟨⟨_, he⟩, _⟩ := st; wpAny_pyIter_enum he h
def iEnumT (K : PySem.W.Frag) (ta : TA) : TI := fun σ H R => ta σ H fun vs H1 => ∃ a xs, vs = [.ref a] ∧ SqT K H1 a xs ∧ R (IteT K a) H1
theorem pi_enumT {X : Cx} {e : Expr} {ta : TA} {p pos tpos : Pos} {elts : List Expr} {kk : Nat} (hg : Gl X "enumerate") (hm : X.mg "enumerate" = none) (ha : PA X [e] ta) (hs : starEach [e] X.env = [(false, eval e X.env)] := by rfl) :
    PI X (.Tuple elts kk tpos) (.Call (.Name "enumerate" p) [e] [] pos) (iEnumT X.K ta) := by
  refine ⟨fun pins s σ H R I h => ?_⟩
  refine Call_ (ld_blt I hg hm boot_enumerate (PyProof.Rows.callWith_type1 (thn (ha.run pos pins s σ H _ I h) fun us s1 ⟨vs, H1, I1, r1, q1⟩ => ?_) hs rfl))
  obtain ⟨a, xs, ex, hq, q⟩ := q1
  subst ex
  cases r1 with
  | cons r rr =>
    cases rr
    cases r
    obtain ⟨its, rv, p', hz⟩ := I1.tuple hq
    have hp : s1.heap.IsTuple a its.toArray := p'
    have hal : a < s1.heap.objs.size := by obtain ⟨o, q, _⟩ := hp; exact Heap.lt_size q
    refine enum_begins1 (begins_tuple a its.toArray) hp fun h' he hit hsz hk => wpAny_pyIter_enum he ?_
    have I2 : Inv X pins σ H1 { s1 with heap := h' } := I1.kept (t' := s1.toks) hk
    refine ⟨s1.heap.objs.size + 1, [s1.heap.objs.size + 1, s1.heap.objs.size], _, _, H1, rfl, I2, turn_enumT a (s1.heap.objs.size + 1) s1.heap.objs.size, ⟨⟨.none, he⟩, ⟨_, hit, rfl, rfl⟩, Nat.succ_ne_self _, Nat.ne_of_lt hal, fun z => by rw [← z] at hal; exact absurd hal (by simp [Addr] at *)⟩, fun b hb => ?_, q⟩
    have e' : b = s1.heap.objs.size + 1 ∨ b = s1.heap.objs.size := by simpa using hb
    have hle : s1.heap.objs.size ≤ b := by
      rcases e' with z | z
      · rw [z]; exact Nat.le_add_right _ _
      · rw [z]; exact Nat.le_refl _
    exact I1.fpOk hle (I1.hok.fresh hle)
theorem walk_enumT {K : PySem.W.Frag} {a : Addr} {xs : List V} : Walk (IteT K a) xs.length (fun H => SqT K H a xs) (YPair (fun i => some (.int (i : Nat))) (fun i => xs[i]?)) := by
  refine ⟨fun i _ hi q => ⟨xs, xs[i], q, by simp [hi]⟩, fun _ q => ⟨xs, q, rfl⟩, fun i H v H' _ q y => ?_⟩
  obtain ⟨T, x, h1, h2, h3, h4⟩ := y
  exact ⟨T, .int (i : Nat), x, h1, h2, h3, rfl, h4 xs q⟩
/-- [f x for x in l if p x], garbage allowed -/
theorem lc_sel {α : Type} {J : It} {G : Hp → Prop} {l : List α} {mk : α → V} {g : TG} {tt : TT} {te : TE} {vs : List Nat} {σ : L2.St} {H1 : Hp} {D : Addr} {Qd : Hp → Prop} (p : α → Bool) (f : α → V) (w : Walk J (l.map mk).length G (YAt (l.map mk))) (hG : ∀ H, Same H1 H → G H) (hl : l.length ≤ 1000) (hD : H1 D = none)
    (hs : ∀ x ∈ l, ∀ H, Same H1 H → ∀ (N1 : Hp → Prop) (N2 : V → Hp → Prop), (∀ H', Same H H' → (p x = false → N1 H') ∧ (p x = true → N2 (f x) H')) →
      g (mk x) (wipe σ vs) H fun σ2 H2 => wipe σ2 vs = wipe σ vs ∧ tt σ2 H2 fun b H3 => if b = true then te σ2 H3 N2 else N1 H3)
    (hd : ∀ H, Same H1 H → H D = some (.lst ((l.filter p).map f)) → Qd H) :
    ∃ W : Nat → Nat → Hp → Prop, (∃ m, W 0 m (upd H1 D (.lst []))) ∧ ∀ i' m H, W i' m H →
      (J.stop i' H ∧ Qd H) ∨ (J.go i' H ∧ ∃ Nx : Hp → Prop, (∀ H', Nx H' → ∃ m', m' < m ∧ W (i' + 1) m' H') ∧ ∀ x H', J.yld i' H x H' → g x (wipe σ vs) H' fun σ2 H2 => wipe σ2 vs = wipe σ vs ∧ tt σ2 H2 fun b H3 =>
        if b = true then te σ2 H3 fun y H4 => ∃ acc, H4 D = some (.lst acc) ∧ acc.length < sizeLine ∧ Nx (upd H4 D (.lst (acc ++ [y]))) else Nx H3) := by
  refine lc_it w (fun k H => Same H1 H ∧ H D = some (.lst (((l.take k).filter p).map f))) ⟨same_upd hD, upd_same⟩ (fun k H _ e => hG _ e.1) (fun k v H H' hk e y => ?_) (fun H e => ?_)
  · obtain ⟨e1, e2⟩ := e
    obtain ⟨rfl, hy⟩ := y
    rw [List.getElem?_map] at hy
    cases hx : l[k]? with
    | none => rw [hx] at hy; cases hy
    | some x =>
      rw [hx] at hy
      obtain rfl := (Option.some.inj hy).symm
      have st := take_filter p hx
      have le : ((l.take k).filter p).length ≤ 1000 := Nat.le_trans (List.length_filter_le _ _) (Nat.le_trans (by rw [List.length_take]; exact Nat.min_le_right _ _) hl)
      refine hs x (List.mem_of_getElem? hx) _ e1 _ _ fun H2 e3 => ⟨fun q => ⟨e1.trans e3, ?_⟩, fun q => ⟨_, e3 _ _ e2, by rw [List.length_map]; exact sz_small le, fun b u hb => ?_, ?_⟩⟩
      · rw [st, q]
        simpa using e3 _ _ e2
      · by_cases z : b = D
        · rw [z] at hb; rw [hD] at hb; cases hb
        · rw [upd_ne z]; exact e3 _ _ (e1 _ _ hb)
      · rw [upd_same, st, if_pos q, List.map_append]
        rfl
  · rw [List.length_map, List.take_length] at e
    exact hd H e.1 e.2
end Tw
namespace Tw
open PySem PySem.Spec PyProof.Rows L2
/-! ### pairs of texts in a tuple of such -/
def pD (e : Str × Str) : PyData := .tuple [.str e.1, .str e.2]
def OkP (e : Str × Str) : Prop := PySem.PyData.strOk e.1 = true ∧ PySem.PyData.strOk e.2 = true
theorem pD_lay {e : Str × Str} (h : OkP e) : (pD e).canLay0 = true := by
  have h1 := h.1
  have h2 := h.2
  simp [pD, PyData.canLay0, PyData.canLayAll0, h1, h2]
theorem pDs_lay : ∀ {l : List (Str × Str)}, (∀ e ∈ l, OkP e) → PyData.canLayAll0 (l.map pD) = true
  | [], _ => rfl
  | e :: r, h => by
    show (PyData.canLay0 (pD e) && PyData.canLayAll0 (r.map pD)) = true
    rw [pDs_lay fun y hy => h y (List.mem_cons_of_mem _ hy), Bool.and_true]
    exact pD_lay (h e List.mem_cons_self)
theorem eqv_pD (e f : Str × Str) : PyData.eqv (pD e) (pD f) = decide (e = f) := by
  show ((e.1 == f.1) && ((e.2 == f.2) && true)) = _
  rw [Bool.eq_iff_iff, Bool.and_true, Bool.and_eq_true, beq_iff_eq, beq_iff_eq, decide_eq_true_iff]
  exact ⟨fun h => Prod.ext h.1 h.2, fun h => by rw [h]; exact ⟨rfl, rfl⟩⟩
theorem any_pD (f : Str × Str) (l : List (Str × Str)) : ((l.map pD).any fun z => PyData.eqv z (pD f)) = decide (f ∈ l) := by
  rw [Bool.eq_iff_iff, decide_eq_true_iff, List.any_map, List.any_eq_true]
  refine ⟨fun ⟨y, hy, e⟩ => ?_, fun h => ⟨f, h, ?_⟩⟩
  · have e' : PyData.eqv (pD y) (pD f) = true := e
    rw [eqv_pD, decide_eq_true_iff] at e'
    rw [← e']; exact hy
  · show PyData.eqv (pD f) (pD f) = true
    rw [eqv_pD]; exact decide_eq_true rfl
theorem depth_pD (f : Str × Str) : (pD f).depth = 1 := by simp [pD, PyData.depth, PyData.depthAll]
theorem dp_pair {K : PySem.W.Frag} {H : Hp} {p : Addr} {e : Str × Str} (h : SqT K H p [.str e.1, .str e.2]) : Dp K H (.ref p) (pD e) := .tup h (.cons (.str _) (.cons (.str _) .nil))
theorem dp_pairs {K : PySem.W.Frag} {H : Hp} : ∀ {bs : List (Addr × (Str × Str))}, (∀ b ∈ bs, H b.1 = some (.tup [.str b.2.1, .str b.2.2])) → DpAll K H (bs.map fun b => .ref b.1) ((bs.map Prod.snd).map pD)
  | [], _ => .nil
  | b :: r, h => .cons (dp_pair (SqT.of (h b List.mem_cons_self))) (dp_pairs fun y hy => h y (List.mem_cons_of_mem _ hy))
def rInP (K : PySem.W.Frag) : R2 := fun x y H Q => ∃ (p q : Addr) (e : Str × Str) (es : List (Str × Str)), x = .ref p ∧ y = .ref q ∧ H p = some (.tup [.str e.1, .str e.2]) ∧ PairsAt H q es ∧ OkP e ∧ (∀ f ∈ es, OkP f) ∧ Q (.bl (decide (e ∈ es))) H
theorem op_inP {X : Cx} (hu : X.A.units + 64 < cLine) : OpR X (compareOp .In) (rInP X.K) := by
  intro pins s σ H x y v u Q I rx ry h
  obtain ⟨p, q, e, es, rfl, rfl, hp, ⟨bs, rfl, hq, hb⟩, oe, oes, qq⟩ := h
  obtain ⟨as, r1⟩ := Dp.reads I (pD e) (.ref p) v (dp_pair (SqT.of hp)) rx
  obtain ⟨cs, r2⟩ := Dp.reads I (.tuple ((bs.map Prod.snd).map pD)) (.ref q) u (.tup (SqT.of hq) (dp_pairs hb)) ry
  refine SeqAt.in_tuple_reads r2 r1 (pDs_lay oes) (pD_lay oe) ?_ ⟨.bl _, H, I, rfl, by rw [any_pD]; exact qq⟩
  have : min (PyData.depthAll ((bs.map Prod.snd).map pD)) (pD e).depth ≤ 1 := by rw [depth_pD]; exact Nat.min_le_right _ _
  exact Nat.lt_of_le_of_lt (show X.A.units + 1 + min (PyData.depthAll ((bs.map Prod.snd).map pD)) (pD e).depth ≤ X.A.units + 64 by omega) hu
theorem op_inPK {X : Cx} {K : PySem.W.Frag} (h : X.K = K) (hu : X.A.units + 64 < cLine) : OpR X (compareOp .In) (rInP K) := by rw [← h]; exact op_inP hu
/-! ### letters -/
theorem pe_gx {X : Cx} {x : Str} {v : V} {pos : Pos} (hg : Gl X x) (h : ∃ u, X.mg x = some u ∧ RelV v u) (hd : (x == ("__debug__" : Str)) = false := by decide) : PE X (.Name x pos) (tC v) := by
  obtain ⟨u, hm, r⟩ := h
  exact pe_glob hg hm r hd
theorem az_in : ∀ k : Fin 26, (!(Builtin.Str.occurrences "abcdefghijklmnopqrstuvwxyz" ⟨#[97 + k.val]⟩ 0 (Str.length "abcdefghijklmnopqrstuvwxyz") 1).isEmpty) = true := by decide +kernel
theorem az_in' {c : Nat} (h1 : 97 ≤ c) (h2 : c < 123) : (!(Builtin.Str.occurrences "abcdefghijklmnopqrstuvwxyz" ⟨#[c]⟩ 0 (Str.length "abcdefghijklmnopqrstuvwxyz") 1).isEmpty) = true := by
  have := az_in ⟨c - 97, by omega⟩
  rw [show 97 + (⟨c - 97, by omega⟩ : Fin 26).val = c by show 97 + (c - 97) = c; omega] at this
  exact this
theorem cut_take (xs : List V) (i : Nat) : cutV xs none (some (i : Int)) = xs.take i := by
  unfold cutV
  show (xs.drop 0).take (HT.sIx xs.length xs.length (some (i : Int)) - 0) = _
  rw [List.drop_zero, Nat.sub_zero]
  unfold HT.sIx
  simp only []
  split
  · omega
  · rw [Int.toNat_natCast]
    rcases Nat.le_total i xs.length with h | h
    · rw [Nat.min_eq_left h]
    · rw [Nat.min_eq_right h, List.take_of_length_le (Nat.le_refl _), List.take_of_length_le h]
section
variable {P : Program} {w : World} {K : PySem.W.Frag} {mg : Str → Option Value} {base : Heap} {a : Ads}
theorem ok_is_word (T : Txt P K mg a) : FnR P w K mg base CX0 1 a.f_is_word spIsWord := by
  obtain ⟨fd, F⟩ := T.F_is_word
  refine okR F sc_is_word (fun vs H Q E h => ?_) (fun _ _ _ _ _ _ us hl => match us, hl with | [_], _ => rfl) (fun cdv A outer s H vs Q E hr h => ?_)
  · obtain ⟨x, rfl, _⟩ := h
    rfl
  · obtain ⟨x, rfl, hw, q⟩ := h
    have hu := hu_of hr
    have hlen : x.length = x.cps.size := rfl
    have h1 := hw.lo
    have h2 := hw.hi
    refine ⟨_, (pss_cons (ps_if (PW.pt (pw_or (pt_not (pt_val (pe_callB call_isi (by rfl) T.n_isinstance (by decide +kernel) (pa_cons (pv 0) (pa_cons (pe_bltn (v := .ty "str") (u := .type "str") (by rfl) T.n_str (by decide +kernel) rfl) pa_nil))))) (pw_or1 (pt_not (pt_chain op_le op_le pe_int (pe_callB call_len_str (by rfl) T.n_len PySem.boot_len (pa_cons (pv 0) pa_nil)) pe_int))))) (pss_one (ps_ret pe_bl)) pss_nil)
  (pss_one (ps_ret (pe_callB (cr_all rfl) (by rfl) T.n_all (by decide +kernel) (pa_cons (pe_lc (own := [("letter", 1)]) rfl sc_is_word.nd (pi_str (pv 0)) (blkOk_by (own := [("letter", 1)]) (N := N_is_word) (sc := (defScope s_is_word)) (by decide +kernel)) (fun _ _ _ _ _ => (pg_name (i := 1) sc_is_word.nd rfl (Or.inl rfl))) (fun _ _ _ _ _ => pts_nil) (fun _ _ _ _ _ => (pe_cmpR op_in_str (pv 1) (pe_gx (v := .str "abcdefghijklmnopqrstuvwxyz") (by rfl) (lettersV T)) (by rfl)))) pa_nil))))), ?_⟩
    refine ⟨_, rfl, _, _, _, _, true, rfl, .ty _, .base (.str x), kit_ty (by decide +kernel), _, rfl, iteF ?_⟩
    refine ⟨_, rfl, x, rfl, Nat.le_trans h2 (by decide), _, _, rfl, rfl, _, rfl, ?_⟩
    refine ite2 (fun _ => ?_) (fun z => absurd (decide_eq_true (by omega)) z)
    refine ⟨_, _, rfl, rfl, _, rfl, ?_⟩
    rw [show decide ((x.length : Int) ≤ 6) = true from decide_eq_true (by omega)]
    refine iteF ?_
    refine ⟨_, rfl, x, rfl, fun D hD => lc_it walk_str (fun i H' => Same H H' ∧ H' D = some (.lst ((List.replicate i true).map V.bl))) ⟨same_upd hD, upd_same⟩ (fun _ _ _ _ => True.intro) (fun i v H1 H2 hi e y => ?_) (fun H1 e => ?_)⟩
    · obtain ⟨rfl, c, hc, rfl⟩ := y
      have hm : c ∈ x.cps.toList := by
        rw [Array.mem_toList_iff]
        exact Array.mem_of_getElem? hc
      have hb := hw.az c hm
      refine ⟨rfl, _, rfl, _, _, rfl, rfl, _, e.2, ?_, ?_, ?_⟩
      · rw [List.length_map, List.length_replicate]; exact sz_small (by omega)
      · intro b u hbu
        by_cases z : b = D
        · rw [z] at hbu; rw [hD] at hbu; cases hbu
        · rw [upd_ne z]; exact e.1 _ _ hbu
      · rw [upd_same, az_in' hb.1 hb.2, List.replicate_succ', List.map_append]
        rfl
    · refine ⟨D, List.replicate x.cps.size true, rfl, SqL.of e.2, ?_⟩
      rw [show (List.replicate x.cps.size true).all id = true from by simp]
      exact q _ e.1
end
end Tw
namespace Tw
open PySem PySem.Spec PyProof.Rows L2
theorem flt_true {α : Type} (l : List α) : l.filter (fun _ => true) = l := List.filter_eq_self.mpr fun _ _ => rfl
theorem map_true {α : Type} (l : List α) : l.map (fun _ => V.bl true) = (l.map fun _ => true).map V.bl := by rw [List.map_map]; rfl
theorem all_true {α : Type} (l : List α) : (l.map fun _ => true).all id = true := by rw [List.all_map, List.all_eq_true]; intro _ _; rfl
section
variable {P : Program} {w : World} {K : PySem.W.Frag} {mg : Str → Option Value} {base : Heap} {a : Ads}
theorem ok_is_strings (T : Txt P K mg a) : FnR P w K mg base CX0 1 a.f_is_strings spIsStrings := by
  obtain ⟨fd, F⟩ := T.F_is_strings
  refine okR F sc_is_strings (fun vs H Q E h => ?_) (fun _ _ _ _ _ _ us hl => match us, hl with | [_, _], _ => rfl) (fun cdv A outer s H vs Q E hr h => ?_)
  · obtain ⟨q, l, m, rfl, _⟩ := h
    rfl
  · obtain ⟨q, l, m, rfl, hq, hl, hm, qq⟩ := h
    have hu := hu_of hr
    refine ⟨_, (pss_cons (ps_if (PW.pt (pw_or (pt_not (pt_val (pe_callB call_isi (by rfl) T.n_isinstance (by decide +kernel) (pa_cons (pv 0) (pa_cons (pe_bltn (v := .ty "tuple") (u := .type "tuple") (by rfl) T.n_tuple (by decide +kernel) rfl) pa_nil))))) (pw_or1 (pt_not (pt_val (pe_callB (cr_all rfl) (by rfl) T.n_all (by decide +kernel) (pa_cons (pe_lc (own := [("item", 2)]) rfl sc_is_strings.nd (pi_tup (pv 0)) (blkOk_by (own := [("item", 2)]) (N := N_is_strings) (sc := (defScope s_is_strings)) (by decide +kernel)) (fun _ _ _ _ _ => (pg_name (i := 2) sc_is_strings.nd rfl (Or.inl rfl))) (fun _ _ _ _ _ => pts_nil) (fun _ _ _ _ _ => (pe_callB (call_isiK (K := K) rfl) (by rfl) T.n_isinstance (by decide +kernel) (pa_cons (pv 2) (pa_cons (pe_bltn (v := .ty "str") (u := .type "str") (by rfl) T.n_str (by decide +kernel) rfl) pa_nil))))) pa_nil))))))) (pss_one (ps_ret pe_bl)) pss_nil)
  (pss_one (ps_ret (pe_or (pe_cmpR op_isN (pv 1) pe_non (nomark _)) (pe_one (pe_cmpR op_eq (pe_callB call_len_seq (by rfl) T.n_len PySem.boot_len (pa_cons (pv 0) pa_nil)) (pv 1) (nomark _))))))), ?_⟩
    refine ⟨_, rfl, _, _, _, _, true, rfl, .ty _, .base (.tup hq), kit_ty (by decide +kernel), _, rfl, iteF ?_⟩
    refine ⟨_, rfl, q, rfl, ⟨_, SqT.of hq⟩, fun D hD => lc_sel (l := l) (mk := V.str) (fun _ => true) (fun _ => .bl true) walk_tup (fun H' e => SqT.of (e _ _ hq)) hl hD (fun x hx H' e N1 N2 n => ?_) (fun H' e hd => ?_)⟩
    · exact ⟨rfl, _, rfl, _, _, _, _, true, rfl, .ty _, .base (.str x), kit_ty (by decide +kernel), (n H' (fun _ _ z => z)).2 rfl⟩
    · rw [flt_true, map_true] at hd
      refine ⟨D, _, rfl, SqL.of hd, _, rfl, ?_⟩
      rw [all_true]
      refine iteF ?_
      rcases hm with rfl | rfl
      · exact ⟨_, rfl, rfl, _, rfl, iteT (qq _ e)⟩
      · refine ⟨_, rfl, rfl, _, rfl, iteF ?_⟩
        refine ⟨_, rfl, q, _, rfl, .inr (SqT.of (e _ _ hq)), _, rfl, rfl, ?_⟩
        rw [tv_length, decide_eq_true rfl]
        exact qq _ e
theorem ok_check_places (T : Txt P K mg a) : FnR P w K mg base CX0 2 a.f_check_places spCheckPlaces := by
  obtain ⟨fd, F⟩ := T.F_check_places
  have ok_is_word := ok_is_word (P := P) (w := w) (base := base) T
  refine okR F sc_check_places (fun vs H Q E h => ?_) (fun _ _ _ _ _ _ us hl => match us, hl with | [_], _ => rfl) (fun cdv A outer s H vs Q E hr h => ?_)
  · obtain ⟨D, q, rfl, _⟩ := h
    rfl
  · obtain ⟨D, q, rfl, hq, qq⟩ := h
    have hu := hu_of hr
    have n0 := List.length_pos_iff.mpr D.ne
    have n1 := D.small
    obtain ⟨tl, hl⟩ := T.lval
    refine ⟨_, (pss_cons (ps_if (pt_not (pt_chain op_le op_le pe_int (pe_callB call_len_seq (by rfl) T.n_len PySem.boot_len (pa_cons (pv 0) pa_nil)) (ClX.pe_cval (pe_glob (v := .ref a.c_Tree) (u := .ref a.c_Tree) (by rfl) T.mg_Tree rfl)))) (pss_one ps_never) pss_nil)
  (pss_one (ps_for PassesOwn.never rfl (pi_enumT (by rfl) T.n_enumerate (pa_cons (pv 0) pa_nil)) (pg_tup rfl (pgs_cons (pg_name (i := 1) sc_check_places.nd rfl (Or.inl rfl)) (pgs_cons (pg_name (i := 2) sc_check_places.nd rfl (Or.inl rfl)) pgs_nil)))
    (pss_one (ps_if (PW.pt (pw_or (pt_not (pt_val (cR T.g_is_word ok_is_word (hr.mono (by decide)) (by rfl) (pa_cons (pv 2) pa_nil)))) (pw_or1 (pt_cmpR op_in_seq (pv 2) (pe_slice sl_tup (pv 0) po_none (po_some (pv 1))) (by rfl))))) (pss_one ps_never) pss_nil))))), ?_⟩
    refine ⟨_, rfl, q, _, rfl, .inr (SqT.of hq), _, _, rfl, rfl, _, rfl, ?_⟩
    rw [tv_length]
    refine ite2 (fun _ => ?_) (fun z => absurd (decide_eq_true (by omega)) z)
    refine ⟨a.c_Tree, _, .int 40, _, rfl, T.lread, hl, _, _, rfl, rfl, _, rfl, ?_⟩
    rw [show decide ((D.ps.length : Int) ≤ 40) = true from decide_eq_true (by omega)]
    refine iteF ?_
    refine ⟨_, rfl, q, _, rfl, SqT.of hq, for_it walk_enumT (fun i σ H' => Same H H' ∧ ∃ (u1 u2 : Option V), σ = [some (.ref q), u1, u2]) ⟨fun _ _ z => z, _, _, rfl⟩ (fun i σ H' _ e => SqT.of (e.1 _ _ hq)) ?_ ?_⟩
    · rintro i v σ H1 H2 hi ⟨e, u1, u2, rfl⟩ ⟨T1, x, y, rfl, hT, rfl, hx, hy⟩
      obtain rfl := (Option.some.inj hx)
      obtain ⟨z, hz, rfl⟩ := tv_get hy
      have hzp := List.mem_of_getElem? hz
      have e2 := Same.upd' (o := HO.tup [V.int (i : Nat), .str z]) e hT
      refine ⟨T1, _, rfl, SqT.of upd_same, rfl, _, _, rfl, _, _, rfl, rfl, ?_⟩
      refine ⟨_, rfl, z, rfl, D.word z hzp, fun H3 e3 => ⟨_, rfl, iteF ?_⟩⟩
      have e4 := e2.trans e3
      rw [tv_length] at hi
      have hne : ¬ (HT.sIx (tv D.ps).length 0 none = 0 ∧ HT.sIx (tv D.ps).length (tv D.ps).length (some (i : Int)) = (tv D.ps).length) := by
        rw [tv_length]
        rintro ⟨_, z⟩
        unfold HT.sIx at z
        simp only [] at z
        split at z <;> omega
      refine ⟨_, rfl, _, rfl, _, rfl, _, rfl, q, _, rfl, SqT.of (e4 _ _ hq), hne, fun p hp => ?_⟩
      rw [cut_take]
      have hnot : z ∉ D.ps.take i := by
        intro hm
        obtain ⟨j, hj, ej⟩ := List.mem_take_iff_getElem.mp hm
        have hz' := List.getElem?_eq_some_iff.mp hz
        obtain ⟨h1, h2⟩ := hz'
        have := (List.getElem_inj D.gt.nd (i := j) (j := i) (h₀ := by omega) (h₁ := h1)).mp (by rw [ej, h2])
        omega
      refine ⟨p, tv (D.ps.take i), rfl, .inr ?_, rfl, tv_flat _, ?_⟩
      · have := SqT.of (K := K) (upd_same (H := H3) (a := p) (o := HO.tup ((tv D.ps).take i)))
        unfold tv at this ⊢
        rw [List.map_take]
        exact this
      · refine ⟨_, rfl, ?_⟩
        show if inV (.str z) (tv (D.ps.take i)) = true then _ else _
        rw [tv_in, decide_eq_false hnot]
        exact iteF ⟨Same.upd' e4 hp, _, _, rfl⟩
    · rintro σ H1 ⟨e, u1, u2, rfl⟩
      exact qq _ e
theorem ok_check_edges (T : Txt P K mg a) : FnR P w K mg base CX0 1 a.f_check_edges spCheckEdges := by
  obtain ⟨fd, F⟩ := T.F_check_edges
  refine okR F sc_check_edges (fun vs H Q E h => ?_) (fun _ _ _ _ _ _ us hl => match us, hl with | [_, _], _ => rfl) (fun cdv A outer s H vs Q E hr h => ?_)
  · obtain ⟨D, q, r, rfl, _⟩ := h
    rfl
  · obtain ⟨D, q, r, rfl, hq, hr2, qq⟩ := h
    have hu := hu_of hr
    obtain ⟨bs, eb, hR, hbs⟩ := hr2
    refine ⟨_, (pss_one (ps_for PassesOwn.never rfl (pi_enumT (by rfl) T.n_enumerate (pa_cons (pv 1) pa_nil)) (pg_tup rfl (pgs_cons (pg_name (i := 2) sc_check_edges.nd rfl (Or.inl rfl)) (pgs_cons (pg_tup rfl (pgs_cons (pg_name (i := 3) sc_check_edges.nd rfl (Or.inl rfl)) (pgs_cons (pg_name (i := 4) sc_check_edges.nd rfl (Or.inl rfl)) pgs_nil))) pgs_nil)))
    (pss_cons (ps_if (PW.pt (pw_or (pt_cmpR op_notIn_seq (pv 3) (pv 0) (by rfl)) (pw_or (pt_cmpR op_notIn_seq (pv 4) (pv 0) (by rfl)) (pw_or1 (pt_cmpR op_eq (pv 3) (pv 4) (nomark _)))))) (pss_one ps_never) pss_nil)
  (pss_one (ps_if (PW.pt (pw_or (pt_cmpR (op_inP hr.units) (pe_tup (pa_cons (pv 3) (pa_cons (pv 4) pa_nil))) (pe_slice sl_tup (pv 1) po_none (po_some (pv 2))) (by rfl)) (pw_or1 (pt_cmpR (op_inP hr.units) (pe_tup (pa_cons (pv 4) (pa_cons (pv 3) pa_nil))) (pe_slice sl_tup (pv 1) po_none (po_some (pv 2))) (by rfl))))) (pss_one ps_never) pss_nil))))), ?_⟩
    refine ⟨_, rfl, r, _, rfl, SqT.of hR, for_it walk_enumT (fun i σ H' => Same H H' ∧ ∃ (u1 u2 u3 : Option V), σ = [some (.ref q), some (.ref r), u1, u2, u3]) ⟨fun _ _ z => z, _, _, _, rfl⟩ (fun i σ H' _ e => SqT.of (e.1 _ _ hR)) ?_ ?_⟩
    · rintro i v σ H1 H2 hi ⟨e, u1, u2, u3, rfl⟩ ⟨T1, x, y, rfl, hT, rfl, hx, hy⟩
      obtain rfl := (Option.some.inj hx)
      replace hy : (bs.map fun b => V.ref b.1)[i]? = some y := hy
      rw [List.getElem?_map] at hy
      cases hb : bs[i]? with
      | none => rw [hb] at hy; cases hy
      | some b =>
        rw [hb] at hy
        obtain rfl := (Option.some.inj hy)
        have hbm := List.mem_of_getElem? hb
        obtain ⟨bq, b1, b2⟩ := b
        have he : (b1, b2) ∈ D.es := by rw [← eb]; exact List.mem_map.mpr ⟨_, hbm, rfl⟩
        have e2 := Same.upd' (o := HO.tup [V.int (i : Nat), .ref bq]) e hT
        have ends := D.gt.ends _ he
        refine ⟨T1, _, rfl, SqT.of upd_same, rfl, _, _, rfl, _, _, rfl, ⟨bq, _, rfl, SqT.of (e2 _ _ (hbs _ hbm)), rfl, _, _, rfl, _, _, rfl, rfl, rfl, ?_⟩⟩
        generalize upd H1 T1 (HO.tup [V.int (i : Nat), .ref bq]) = H2 at e2
        have w1 := (D.word _ ends.1).ok
        have w2 := (D.word _ ends.2).ok
        have hlt : i < bs.length := (List.getElem?_eq_some_iff.mp hb).1
        have hne : ∀ z : Str × Str, z ∈ (bs.take i).map Prod.snd → z ∈ D.es ∧ z ≠ (b1, b2) := fun z hz => by
          obtain ⟨c, hc, rfl⟩ := List.mem_map.mp hz
          refine ⟨by rw [← eb]; exact List.mem_map.mpr ⟨c, List.mem_of_mem_take hc, rfl⟩, fun ez => ?_⟩
          obtain ⟨j, hj, ej⟩ := List.mem_take_iff_getElem.mp hc
          have nd : (bs.map Prod.snd).Nodup := by rw [eb]; exact D.gt.nde
          obtain ⟨h1, h2⟩ := List.getElem?_eq_some_iff.mp hb
          have := (List.getElem_inj nd (i := j) (j := i) (h₀ := by rw [List.length_map]; omega) (h₁ := by rw [List.length_map]; exact h1)).mp (by rw [List.getElem_map, List.getElem_map, ej, h2, ez])
          omega
        have hself : b1 ≠ b2 := fun z => by
          obtain ⟨c, hc, _⟩ := D.gt.cut _ he
          exact hc (by rw [show (b1, b2).1 = (b1, b2).2 from z])
        have hrev : (b2, b1) ∉ D.es := fun z => by
          obtain ⟨c, hc, h'⟩ := D.gt.cut _ he
          have := h' _ z (fun y => hself (congrArg Prod.snd y))
          exact hc this.symm
        have okes : ∀ f ∈ (bs.take i).map Prod.snd, OkP f := fun f hf => by
          have := D.gt.ends _ (hne f hf).1
          exact ⟨(D.word _ this.1).ok, (D.word _ this.2).ok⟩
        have n1 : (b1, b2) ∉ (bs.take i).map Prod.snd := fun z => (hne _ z).2 rfl
        have n2 : (b2, b1) ∉ (bs.take i).map Prod.snd := fun z => hrev (hne _ z).1
        have hcut : ¬ (HT.sIx (bs.map fun b => V.ref b.1).length 0 none = 0 ∧ HT.sIx (bs.map fun b => V.ref b.1).length (bs.map fun b => V.ref b.1).length (some (i : Int)) = (bs.map fun b => V.ref b.1).length) := by
          rw [List.length_map]
          rintro ⟨_, z⟩
          unfold HT.sIx at z
          simp only [] at z
          split at z <;> omega
        have fin : ∀ (x y : Str) (H3 : Hp) (R : Bool → Hp → Prop), Same H H3 → OkP (x, y) → (x, y) ∉ (bs.take i).map Prod.snd → (∀ H4, Same H H4 → R false H4) → ∀ p, H3 p = none → ∀ p2, upd H3 p (HO.tup [.str x, .str y]) p2 = none →
            rInP K (.ref p) (.ref p2) (upd (upd H3 p (HO.tup [.str x, .str y])) p2 (.tup (cutV (bs.map fun b => V.ref b.1) none (some (i : Int))))) (fun v H' => ∃ k, v = .bl k ∧ R k H') := fun x y H3 R e3 ok no q p hp p2 hp2 => by
          have s3 := Same.upd' (o := HO.tup [.str x, .str y]) e3 hp
          have s4 := Same.upd' (o := HO.tup (cutV (bs.map fun b => V.ref b.1) none (some (i : Int)))) s3 hp2
          refine ⟨p, p2, (x, y), (bs.take i).map Prod.snd, rfl, rfl, same_upd hp2 _ _ upd_same, ⟨bs.take i, rfl, ?_, fun b hb => s4 _ _ (hbs _ (List.mem_of_mem_take hb))⟩, ok, okes, _, rfl, ?_⟩
          · rw [upd_same, cut_take, List.map_take]
          · rw [decide_eq_false no]; exact q _ s4
        refine ⟨_, rfl, _, rfl, q, _, rfl, .inr (SqT.of (e2 _ _ hq)), rfl, tv_flat _, _, rfl, ?_⟩
        rw [show inV (.str b1) (tv D.ps) = true from by rw [tv_in]; exact decide_eq_true ends.1]
        refine iteF ?_
        refine ⟨_, rfl, _, rfl, q, _, rfl, .inr (SqT.of (e2 _ _ hq)), rfl, tv_flat _, _, rfl, ?_⟩
        rw [show inV (.str b2) (tv D.ps) = true from by rw [tv_in]; exact decide_eq_true ends.2]
        refine iteF ?_
        refine ⟨_, rfl, _, rfl, rfl, _, rfl, ?_⟩
        rw [decide_eq_false (fun z => hself (V.str.inj z))]
        refine iteF ?_
        refine ⟨_, rfl, _, rfl, by show 2 ≤ sizeLine; decide, fun p hp => ?_⟩
        refine ⟨_, rfl, _, rfl, _, rfl, r, _, rfl, SqT.of (same_upd hp _ _ (e2 _ _ hR)), hcut, fun p2 hp2 => ?_⟩
        refine fin b1 b2 H2 _ e2 ⟨w1, w2⟩ n1 (fun H3 e3 => iteF ?_) p hp p2 hp2
        refine ⟨_, rfl, _, rfl, by show 2 ≤ sizeLine; decide, fun p hp => ?_⟩
        refine ⟨_, rfl, _, rfl, _, rfl, r, _, rfl, SqT.of (same_upd hp _ _ (e3 _ _ hR)), hcut, fun p2 hp2 => ?_⟩
        refine fin b2 b1 H3 _ e3 ⟨w2, w1⟩ n2 (fun H4 e4 => iteF ?_) p hp p2 hp2
        exact ⟨e4, _, _, _, rfl⟩
    · rintro σ H1 ⟨e, u1, u2, u3, rfl⟩
      exact qq _ e
end
end Tw
namespace Tw
open PySem PySem.Spec PyProof.Rows L2
theorem dkv_keys (l : List Str) (f : Str → V) : ((dkv l f).map fun kv => kV kv.1) = tv l := by
  unfold dkv tv
  rw [List.map_map]
  rfl
theorem dkv_any {l : List Str} {f : Str → V} {p : Str} : ((dkv l f).any fun kv => decide (kv.1 = Sum.inr p)) = decide (p ∈ l) := by
  rw [valV_any, dkv_val]
  by_cases h : p ∈ l
  · rw [if_pos h, decide_eq_true h]; rfl
  · rw [if_neg h, decide_eq_false h]; rfl
theorem putK_old {l : List Str} {f : Str → V} {p : Str} {v : V} (h : p ∈ l) : putK (dkv l f) (Sum.inr p) v = dkv l fun q => if q = p then v else f q := by
  unfold putK
  rw [dkv_any, if_pos (decide_eq_true h)]
  unfold dkv
  rw [List.map_map]
  refine List.map_congr_left fun q _ => ?_
  show (if (Sum.inr q : Key) = Sum.inr p then (Sum.inr q, v) else (Sum.inr q, f q)) = _
  by_cases e : q = p
  · rw [if_pos (by rw [e])]
    show _ = (Sum.inr q, if q = p then v else f q)
    rw [if_pos e]
  · rw [if_neg (fun z => e (Sum.inr.inj z))]
    show _ = (Sum.inr q, if q = p then v else f q)
    rw [if_neg e]
theorem putK_add {l : List Str} {f : Str → V} {p : Str} (h : p ∉ l) : putK (dkv l f) (Sum.inr p) (f p) = dkv (l ++ [p]) f := by
  unfold putK
  rw [dkv_any, if_neg (by rw [decide_eq_false h]; exact Bool.false_ne_true)]
  unfold dkv
  rw [List.map_append]
  rfl
theorem dkv_congr {l : List Str} {f g : Str → V} (h : ∀ p ∈ l, f p = g p) : dkv l f = dkv l g := by
  unfold dkv
  exact List.map_congr_left fun p hp => by rw [h p hp]
def spJoined : Sp := fun vs H Q _ => ∃ (D : TD) (g : Addr) (x y : Str) (c : Str → Str), vs = [.ref g, .str x, .str y] ∧ H g = some (.dK (dkv D.ps fun p => .str (c p))) ∧ x ∈ D.ps ∧ y ∈ D.ps ∧ c x ≠ c y ∧
  ∀ H', But g H H' → H' g = some (.dK (dkv D.ps fun p => .str (if c p = c y then c x else c p))) → Q (.bl true) H'
section
variable {X : Cx}
/-- name = {k: v for ..} on one line, the name a local -/
theorem ps_setDc {i : Nat} {y : Str} {py : Pos} {kx vx tg iter : Expr} {ifs : List Expr} {scope : Scope} {own : List (Str × Nat)} {pos spos : Pos} {wi : TI} {g : TG} {tt : TT} {tk tv : TE} (hc : X.calm = true) (hN : X.N.Nodup) (hy : X.N[i]? = some y) (hyl : X.env.scope.names.lookup y = some .local)
    (hsw : swapsWith (.DictComp kx vx [⟨tg, iter, ifs, 0⟩] scope pos) (some (.Name y py)) spos.line X.env = pure true) (hi : PI X tg iter wi) (ok : BlkOk X.N X.env.scope scope own)
    (hg : ∀ (s : Shared) (H : Hp) (C : Addr) (cl : List (Str × Addr)) (fp : List Addr), PG (X.blk s H scope (compEnvC scope cl C X.env) fp) tg g) (ht : ∀ (s : Shared) (H : Hp) (C : Addr) (cl : List (Str × Addr)) (fp : List Addr), PTs (X.blk s H scope (compEnvC scope cl C X.env) fp) ifs tt)
    (hk : ∀ (s : Shared) (H : Hp) (C : Addr) (cl : List (Str × Addr)) (fp : List Addr), PE (X.blk s H scope (compEnvC scope cl C X.env) fp) kx tk)
    (he : ∀ (s : Shared) (H : Hp) (C : Addr) (cl : List (Str × Addr)) (fp : List Addr), PE (X.blk s H scope (compEnvC scope cl C X.env) fp) vx tv) (hs : ∀ x, foldedSetIterable iter X.env x = pure x := by intro _; rfl) :
    PS X (.Assign [.Name y py] (.DictComp kx vx [⟨tg, iter, ifs, 0⟩] scope pos) spos) (tAsg (tDc wi g tt tk tv (own.map (·.2))) (gName i)) := by
  refine ⟨fun pins s σ H D I h => ?_⟩
  rw [exec_Assign_Name_used _ _ _ _ hsw]
  refine wpAny_bind (wpAny_standAt (wpAny_bind ?_))
  show wpAny _ X.A (do let _ ← comprehension (.DictComp kx vx [⟨tg, iter, ifs, 0⟩] scope pos) scope X.env (firstIterPos [⟨tg, iter, ifs, 0⟩] pos) newDict false (eval iter X.env) (some (assign (.Name y py) X.env))) _ _ s
  have h : tDc wi g tt tk tv (own.map (·.2)) σ H (fun x H1 => gName i x σ H1 D.nx) := h
  refine wpAny_bind (thn (dc_core (Qf := fun _ s' => SP X pins D .next s') hc hN I hi ok hg ht hk he hs h fun L C s' m H' I' q hn f => ?_) fun _ s' hq => wpAny_pure (wpAny_pure hq))
  show wpAny _ _ (assign (.Name y py) X.env (.ref L)) _ _ _
  refine wpAny_assign_Name (store_ok2 (v := V.ref L) I' hN hy (.inl hyl) rfl (fun s2 I2 ⟨a, sb, ha⟩ => ?_) (.inr hyl))
  obtain ⟨f0, f1, f2, f3, f4, f5⟩ := f
  have haC : C ≠ a := by
    rcases ha with z | z
    · rw [z]; exact f1
    · exact fun e => f4 y a z e.symm
  refine ⟨m, hn.sameBut sb haC, fun h3 sb3 => ?_⟩
  exact ⟨_, H', I2.turned (t' := s2.toks) (fun b o hb e => (sb3.2 b hb).trans e) f0 f1 f3 f4 f5, q⟩
theorem sw_trueD {kx vx : Expr} {gs : List Comprehension} {scope : Scope} {pos py : Pos} {y : Str} {l : Nat} {env : Env} (hk : env.scope.kind = .function) (hy : env.scope.names.lookup y = some .local) (hl : (py.line == pos.line) = true)
    (ha : (scope.names.any fun (n, k) => n == y && (k == .local || k == .cell)) = false) : swapsWith (.DictComp kx vx gs scope pos) (some (.Name y py)) l env = pure true := by
  have ky : env.kindOf y = some .local := hy
  have hb : env.blockKind = .function := by unfold Env.blockKind; rw [hk]; rfl
  unfold swapsWith
  simp only [hb, ky, ha, Expr.pos, hl]
  rfl
end
/-- {p: f p for p in l} over a tuple of texts, garbage allowed -/
theorem dc_texts {K : PySem.W.Frag} {q : Addr} {l : List Str} {g : TG} {tt : TT} {tk te : TE} {vs : List Nat} {σ : L2.St} {H1 : Hp} {D : Addr} {Qd : Hp → Prop} (R : Hp → Str → V → Prop) (hR : ∀ (H H' : Hp) (p : Str) (v : V), (∀ b o, b ≠ D → H b = some o → H' b = some o) → R H p v → R H' p v)
    (hq : H1 q = some (.tup (tv l))) (nd : l.Nodup) (hl : l.length ≤ 1000) (hD : H1 D = none)
    (hs : ∀ x ∈ l, ∀ H, Same H1 H → (∃ kvs, H D = some (.dK kvs)) → ∀ (N : V → V → Hp → Prop) (NF : Hp → Prop), (∀ v H', Same H H' → R H' x v → N (.str x) v H') →
      g (.str x) (wipe σ vs) H fun σ2 H2 => wipe σ2 vs = wipe σ vs ∧ tt σ2 H2 fun b H3 => if b = true then tk σ2 H3 fun y H4 => te σ2 H4 fun z H5 => N y z H5 else NF H3)
    (hd : ∀ H f, Same H1 H → H D = some (.dK (dkv l f)) → (∀ p ∈ l, R H p (f p)) → Qd H) :
    ∃ W : Nat → Nat → Hp → Prop, (∃ m, W 0 m (upd H1 D (.dK []))) ∧ ∀ i m H, W i m H →
      ((Itt K q).stop i H ∧ Qd H) ∨ ((Itt K q).go i H ∧ ∃ Nx : Hp → Prop, (∀ H', Nx H' → ∃ m', m' < m ∧ W (i + 1) m' H') ∧ ∀ x H', (Itt K q).yld i H x H' → g x (wipe σ vs) H' fun σ2 H2 => wipe σ2 vs = wipe σ vs ∧ tt σ2 H2 fun b H3 =>
        if b = true then tk σ2 H3 fun y H4 => te σ2 H4 fun z H5 => ∃ kvs k, y = kV k ∧ H5 D = some (.dK kvs) ∧ kvs.length < sizeLine ∧ Nx (upd H5 D (.dK (putK kvs k z))) else Nx H3) := by
  refine dc_tup (xs := tv l) (fun i H => Same H1 H ∧ ∃ f, H D = some (.dK (dkv (l.take i) f)) ∧ ∀ p ∈ l.take i, R H p (f p)) ⟨same_upd hD, fun _ => .non, upd_same, fun p hp => by simp at hp⟩ (fun i H _ e => SqT.of (e.1 _ _ hq)) (fun i v H hi e => ?_) (fun H e => ?_)
  · obtain ⟨e1, f, e2, e3⟩ := e
    obtain ⟨x, hx, rfl⟩ := tv_get hi
    have hxm := List.mem_of_getElem? hx
    have hnot : x ∉ l.take i := by
      intro hm
      obtain ⟨j, hj, ej⟩ := List.mem_take_iff_getElem.mp hm
      obtain ⟨h1, h2⟩ := List.getElem?_eq_some_iff.mp hx
      have := (List.getElem_inj nd (i := j) (j := i) (h₀ := by omega) (h₁ := h1)).mp (by rw [ej, h2])
      omega
    have et : l.take (i + 1) = l.take i ++ [x] := by
      obtain ⟨h1, h2⟩ := List.getElem?_eq_some_iff.mp hx
      rw [List.take_succ_eq_append_getElem h1, h2]
    refine hs x hxm H e1 ⟨_, e2⟩ _ _ fun v H' e4 r => ?_
    have hD2 := e4 _ _ e2
    refine ⟨dkv (l.take i) f, Sum.inr x, rfl, hD2, by rw [dkv_length]; exact sz_small (Nat.le_trans (by rw [List.length_take]; exact Nat.min_le_right _ _) hl), ?_⟩
    have sD : ∀ o, Same H1 (upd H' D o) := fun o b u hb => by
      by_cases z : b = D
      · rw [z] at hb; rw [hD] at hb; cases hb
      · rw [upd_ne z]; exact e4 _ _ (e1 _ _ hb)
    refine ⟨sD _, fun p => if p = x then v else f p, ?_, fun p hp => ?_⟩
    · rw [upd_same, et]
      have := putK_add (l := l.take i) (f := fun p => if p = x then v else f p) hnot
      rw [show (if x = x then v else f x) = v from if_pos rfl] at this
      rw [← this]
      congr 3
      refine dkv_congr fun p hp => ?_
      show f p = if p = x then v else f p
      have hpx : p ≠ x := fun z => hnot (by rw [← z]; exact hp)
      rw [if_neg hpx]
    · have mv : ∀ b o, b ≠ D → H' b = some o → (upd H' D (.dK (putK (dkv (l.take i) f) (Sum.inr x) v))) b = some o := fun b o n h => by rw [upd_ne n]; exact h
      refine hR H' _ p _ mv ?_
      by_cases e : p = x
      · show R H' p (if p = x then v else f p)
        rw [if_pos e, e]; exact r
      · show R H' p (if p = x then v else f p)
        rw [if_neg e]
        rw [et] at hp
        rcases List.mem_append.mp hp with hp | hp
        · exact hR H H' p _ (fun b o _ h => e4 _ _ h) (e3 p hp)
        · exact absurd (List.mem_singleton.mp hp) e
  · obtain ⟨e1, f, e2, e3⟩ := e
    rw [tv_length, List.take_length] at e2 e3
    exact hd H f e1 e2 e3
end Tw
namespace Tw
open PySem PySem.Spec PyProof.Rows L2
section
variable {P : Program} {w : World} {K : PySem.W.Frag} {mg : Str → Option Value} {base : Heap} {a : Ads}
theorem mem_take_succ {α : Type} {l : List α} {i : Nat} {x z : α} (h : l[i]? = some x) : z ∈ l.take (i + 1) ↔ z ∈ l.take i ∨ z = x := by
  obtain ⟨hlt, e⟩ := List.getElem?_eq_some_iff.mp h
  rw [List.take_succ_eq_append_getElem hlt, List.mem_append, List.mem_singleton, e]
theorem ok_joined (T : Txt P K mg a) : FnR P w K mg base CX0 1 a.f_joined spJoined := by
  obtain ⟨fd, F⟩ := T.F_joined
  refine okR F sc_joined (fun vs H Q E h => ?_) (fun _ _ _ _ _ _ us hl => match us, hl with | [_, _, _], _ => rfl) (fun cdv A outer s H vs Q E hr h => ?_)
  · obtain ⟨D, g, x, y, c, rfl, _⟩ := h
    rfl
  · obtain ⟨D, g, x, y, c, rfl, hg, hx, hy, hne, qq⟩ := h
    have hu := hu_of hr
    refine ⟨_, (pss_cons (ps_par (i := 3) (j := 4) rfl sc_joined.nd rfl rfl (by decide) rfl rfl (pa_cons (pe_dget hu (pv 0) (pv 1) (fun _ _ => rfl)) (pa_cons (pe_dget hu (pv 0) (pv 2) (fun _ _ => rfl)) pa_nil)) (by rfl))
  (pss_cons (ps_if (pt_cmpR op_eq (pv 3) (pv 4) (nomark _)) (pss_one (ps_ret pe_bl)) pss_nil)
  (pss_cons (ps_for PassesOwn.never rfl (pi_list (pe_callTy (call_list_dK rfl) (by rfl) T.n_list (by decide +kernel) (pa_cons (pv 0) pa_nil))) (pg_name (i := 5) sc_joined.nd rfl (Or.inl rfl))
    (pss_one (ps_if (pt_cmpR op_eq (pe_dget hu (pv 0) (pv 5) (fun _ _ => rfl)) (pv 4) (nomark _)) (pss_one (ps_dput hu (pv 0) (pv 5) (pv 3) rfl)) pss_nil)))
  (pss_one (ps_ret pe_bl))))), ?_⟩
    refine ⟨_, rfl, _, rfl, g, _, rfl, dget hg (dkv_at hx), _, rfl, _, rfl, g, _, rfl, dget hg (dkv_at hy), _, _, rfl, ?_⟩
    refine ⟨_, rfl, _, rfl, rfl, _, rfl, ?_⟩
    rw [decide_eq_false (fun z => hne (V.str.inj z))]
    refine iteF ?_
    refine ⟨_, rfl, g, _, rfl, hg, fun l hl => ⟨l, rfl, ⟨_, SqL.of upd_same⟩, for_list (K := K) (a := l) (xs := tv D.ps) (fun i σ H' => But g H H' ∧ H' l = some (.lst (tv D.ps)) ∧ H' g = some (.dK (dkv D.ps fun p => .str (if p ∈ D.ps.take i ∧ c p = c y then c x else c p))) ∧ ∃ u : Option V, σ = [some (.ref g), some (.str x), some (.str y), some (.str (c x)), some (.str (c y)), u])
      ⟨fun b o h _ => same_upd hl _ _ h, by rw [upd_same, dkv_keys], ?_, _, rfl⟩ (fun i σ H' _ e => SqL.of e.2.1) ?_ ?_⟩⟩
    · rw [same_upd hl _ _ hg]
      congr 2
    · rintro i v σ H1 hi ⟨e, el, eg, u, rfl⟩
      obtain ⟨z, hz, rfl⟩ := tv_get hi
      have hzp := List.mem_of_getElem? hz
      have hnot : z ∉ D.ps.take i := by
        intro hm
        obtain ⟨j, hj, ej⟩ := List.mem_take_iff_getElem.mp hm
        obtain ⟨h1, h2⟩ := List.getElem?_eq_some_iff.mp hz
        have := (List.getElem_inj D.gt.nd (i := j) (j := i) (h₀ := by omega) (h₁ := h1)).mp (by rw [ej, h2])
        omega
      have hlg : l ≠ g := fun z => by rw [z] at hl; rw [hg] at hl; cases hl
      refine ⟨_, rfl, _, rfl, g, _, rfl, dget eg (dkv_at hzp), _, rfl, rfl, _, rfl, ?_⟩
      rw [if_neg (fun z => hnot z.1)]
      refine ite2 (fun hc => ?_) (fun hc => ?_)
      · have hc' : c z = c y := V.str.inj (of_decide_eq_true hc)
        refine ⟨_, rfl, _, rfl, _, rfl, g, _, rfl, DPut.k (k := Sum.inr z) eg (by rw [dkv_length]; exact sz_small (by have := D.small; omega)), ?_, ?_, ?_, _, rfl⟩
        · exact But.upd e
        · rw [upd_ne hlg]; exact el
        · rw [upd_same, putK_old hzp]
          congr 2
          refine dkv_congr fun p _ => ?_
          simp only [mem_take_succ hz]
          by_cases ep : p = z
          · rw [if_pos ep, ep, if_pos ⟨.inr rfl, hc'⟩]
          · rw [if_neg ep]
            simp only [ep, or_false]
      · have hc' : ¬ c z = c y := fun e => hc (decide_eq_true (congrArg V.str e))
        refine ⟨e, el, ?_, _, rfl⟩
        rw [eg]
        congr 2
        refine dkv_congr fun p _ => ?_
        simp only [mem_take_succ hz]
        by_cases ep : p = z
        · subst ep
          rw [if_neg (fun z => hc' z.2), if_neg (fun z => hc' z.2)]
        · simp only [ep, or_false]
    · rintro σ H1 ⟨e, el, eg, u, rfl⟩
      refine qq _ e ?_
      rw [eg, tv_length, List.take_length]
      congr 2
      refine dkv_congr fun p hp => ?_
      simp only [hp, true_and]
/-- what the groups tell of the edges so far -/
structure Uf (ps : List Str) (es : List (Str × Str)) (c : Str → Str) : Prop where
  con : ∀ e ∈ es, c e.1 = c e.2
  tel : ∀ f : Str → Bool, (∀ e ∈ es, f e.1 = f e.2) → ∀ x y, c x = c y → f x = f y
theorem Uf.step {ps : List Str} {es : List (Str × Str)} {c : Str → Str} (u : Uf ps es c) (x y : Str) : Uf ps (es ++ [(x, y)]) fun p => if c p = c y then c x else c p := by
  refine ⟨fun e he => ?_, fun f hf p q h => ?_⟩
  · rcases List.mem_append.mp he with he | he
    · show (if c e.1 = c y then c x else c e.1) = if c e.2 = c y then c x else c e.2
      rw [u.con e he]
    · obtain rfl := List.mem_singleton.mp he
      show (if c x = c y then c x else c x) = if c y = c y then c x else c y
      rw [if_pos rfl]
      split <;> rfl
  · have hf' := u.tel f (fun e he => hf e (List.mem_append_left _ he))
    have hxy : f x = f y := hf (x, y) (List.mem_append_right _ List.mem_cons_self)
    have h' : (if c p = c y then c x else c p) = if c q = c y then c x else c q := h
    by_cases h1 : c p = c y <;> by_cases h2 : c q = c y
    · exact hf' p q (h1.trans h2.symm)
    · rw [if_pos h1, if_neg h2] at h'
      rw [hf' p y h1, ← hxy, hf' x q h']
    · rw [if_neg h1, if_pos h2] at h'
      rw [hf' q y h2, ← hxy, hf' p x h']
    · rw [if_neg h1, if_neg h2] at h'
      exact hf' p q h'
theorem ok_check_tree (T : Txt P K mg a) : FnR P w K mg base CX0 3 a.f_check_tree spCheckTree := by
  obtain ⟨fd, F⟩ := T.F_check_tree
  have ok_is_strings := ok_is_strings (P := P) (w := w) (base := base) T
  have ok_check_places := ok_check_places (P := P) (w := w) (base := base) T
  have ok_check_edges := ok_check_edges (P := P) (w := w) (base := base) T
  have ok_joined := ok_joined (P := P) (w := w) (base := base) T
  refine okR F sc_check_tree (fun vs H Q E h => ?_) (fun _ _ _ _ _ _ us hl => match us, hl with | [_, _], _ => rfl) (fun cdv A outer s H vs Q E hr h => ?_)
  · obtain ⟨D, q, r, rfl, _⟩ := h
    rfl
  · obtain ⟨D, q, r, rfl, hq, hr2, qq⟩ := h
    have hu := hu_of hr
    have n1 := D.small
    refine ⟨_, (pss_cons (ps_if (PW.pt (pw_or (pt_not (pt_val (cR T.g_is_strings ok_is_strings (hr.mono (by decide)) (by rfl) (pa_cons (pv 0) (pa_cons pe_non pa_nil))))) (pw_or1 (pt_not (pt_val (pe_callB call_isi (by rfl) T.n_isinstance (by decide +kernel) (pa_cons (pv 1) (pa_cons (pe_bltn (v := .ty "tuple") (u := .type "tuple") (by rfl) T.n_tuple (by decide +kernel) rfl) pa_nil)))))))) (pss_one ps_never) pss_nil)
  (pss_cons (ps_if (pt_not (pt_val (pe_callB (cr_all rfl) (by rfl) T.n_all (by decide +kernel) (pa_cons (pe_lc (own := [("edge", 7)]) rfl sc_check_tree.nd (pi_tup (pv 1)) (blkOk_by (own := [("edge", 7)]) (N := N_check_tree) (sc := (defScope s_check_tree)) (by decide +kernel)) (fun _ _ _ _ _ => (pg_name (i := 7) sc_check_tree.nd rfl (Or.inl rfl))) (fun _ _ _ _ _ => pts_nil) (fun _ _ _ _ _ => (cR T.g_is_strings ok_is_strings (hr.mono (by decide)) (by rfl) (pa_cons (pv 7) (pa_cons pe_int pa_nil))))) pa_nil)))) (pss_one ps_never) pss_nil)
  (pss_cons (ps_expr (cR T.g_check_places ok_check_places (hr.mono (by decide)) (by rfl) (pa_cons (pv 0) pa_nil)))
  (pss_cons (ps_expr (cR T.g_check_edges ok_check_edges (hr.mono (by decide)) (by rfl) (pa_cons (pv 0) (pa_cons (pv 1) pa_nil))))
  (pss_cons (ps_setDc (i := 2) (own := [("place", 6)]) rfl sc_check_tree.nd rfl rfl (sw_trueD rfl rfl rfl (by decide +kernel)) (pi_tup (pv 0)) (blkOk_by (own := [("place", 6)]) (N := N_check_tree) (sc := (defScope s_check_tree)) (by decide +kernel)) (fun _ _ _ _ _ => (pg_name (i := 6) sc_check_tree.nd rfl (Or.inl rfl))) (fun _ _ _ _ _ => pts_nil) (fun _ _ _ _ _ => (pv 6)) (fun _ _ _ _ _ => (pv 6)))
  (pss_cons (ps_for PassesOwn.never rfl (pi_enumT (by rfl) T.n_enumerate (pa_cons (pv 1) pa_nil)) (pg_tup rfl (pgs_cons (pg_name (i := 3) sc_check_tree.nd rfl (Or.inl rfl)) (pgs_cons (pg_tup rfl (pgs_cons (pg_name (i := 4) sc_check_tree.nd rfl (Or.inl rfl)) (pgs_cons (pg_name (i := 5) sc_check_tree.nd rfl (Or.inl rfl)) pgs_nil))) pgs_nil)))
    (pss_one (ps_if (pt_not (pt_val (cR T.g_joined ok_joined (hr.mono (by decide)) (by rfl) (pa_cons (pv 2) (pa_cons (pv 4) (pa_cons (pv 5) pa_nil)))))) (pss_one ps_never) pss_nil)))
  (pss_one (ps_for PassesOwn.never rfl (pi_enumT (by rfl) T.n_enumerate (pa_cons (pv 0) pa_nil)) (pg_tup rfl (pgs_cons (pg_name (i := 3) sc_check_tree.nd rfl (Or.inl rfl)) (pgs_cons (pg_name (i := 6) sc_check_tree.nd rfl (Or.inl rfl)) pgs_nil)))
    (pss_one (ps_if (pt_cmpR op_ne (pe_dget hu (pv 2) (pv 6) (fun _ _ => rfl)) (pe_dget hu (pv 2) (pe_ix ix_tup (pv 0) pe_int (fun _ _ => rfl)) (fun _ _ => rfl)) (nomark _)) (pss_one ps_never) pss_nil)))))))))), ?_⟩
    refine ⟨_, rfl, q, D.ps, .non, rfl, hq, by omega, .inl rfl, fun H1 e1 => ⟨_, rfl, iteF ?_⟩⟩
    obtain ⟨bs, eb, hR, hbs⟩ := id hr2
    have lb : bs.length ≤ 1000 := by
      have h1 := D.esm
      rw [← eb, List.length_map] at h1
      omega
    refine ⟨_, rfl, _, _, _, _, true, rfl, .ty _, .base (.tup (e1 _ _ hR)), kit_ty (by decide +kernel), _, rfl, iteF ?_⟩
    refine ⟨_, rfl, r, rfl, ⟨_, SqT.of (e1 _ _ hR)⟩, fun B hB => lc_sel (l := bs) (mk := fun b => .ref b.1) (fun _ => true) (fun _ => .bl true) walk_tup (fun H' e => SqT.of (e _ _ (e1 _ _ hR))) lb hB (fun b hb H2 e N1 N2 n => ?_) (fun H2 e hd => ?_)⟩
    · exact ⟨rfl, _, rfl, b.1, [b.2.1, b.2.2], _, rfl, e _ _ (e1 _ _ (hbs b hb)), by show 2 ≤ 1000; decide, .inr rfl, fun H3 e3 => (n H3 e3).2 rfl⟩
    · rw [flt_true, map_true] at hd
      refine ⟨B, _, rfl, SqL.of hd, _, rfl, ?_⟩
      rw [all_true]
      refine iteF ?_
      have e2 := e1.trans e
      refine ⟨_, rfl, D, q, rfl, e2 _ _ hq, fun H3 e3 => ?_⟩
      have e4 := e2.trans e3
      refine ⟨_, rfl, _, rfl, D, q, r, rfl, e4 _ _ hq, hr2.mono e4, fun H5 e5 => ?_⟩
      have e6 := e4.trans e5
      -- groups = {place: place ..}
      refine ⟨_, rfl, q, rfl, ⟨_, SqT.of (e6 _ _ hq)⟩, fun G hG => dc_texts (fun _ p v => v = .str p) (fun _ _ _ _ _ h => h) (e6 _ _ hq) D.gt.nd (by omega) hG (fun x hx H6 e _ N NF n => ⟨rfl, _, rfl, _, rfl, n _ _ (fun _ _ z => z) rfl⟩) (fun H6 f s6 h6 hf => ?_)⟩
      have hg0 : H6 G = some (.dK (dkv D.ps fun p => .str p)) := by rw [h6]; congr 2; exact dkv_congr hf
      have e7 := e6.trans s6
      have hGH : H G = none := e6.free hG
      have nr : ∀ b o, H b = some o → b ≠ G := fun b o h z => by rw [z, hGH] at h; cases h
      -- for at, (one, other) in enumerate(edges)
      refine ⟨_, rfl, r, _, rfl, SqT.of (e7 _ _ hR), for_it walk_enumT (fun i σ H' => Same H H' ∧ (∃ c : Str → Str, H' G = some (.dK (dkv D.ps fun p => .str (c p))) ∧ Uf D.ps (D.es.take i) c) ∧ ∃ (u1 u2 u3 u4 u5 : Option V), σ = [some (.ref q), some (.ref r), some (.ref G), u1, u2, u3, u4, u5])
        ⟨e7, ⟨id, hg0, fun e he => by simp at he, fun f _ x y h => by rw [show x = y from h]⟩, _, _, _, _, _, rfl⟩ (fun i σ H' _ e => SqT.of (e.1 _ _ hR)) ?_ ?_⟩
      · rintro i v σ H7 H8 hi ⟨e8, ⟨c, hc, uf⟩, u1, u2, u3, u4, u5, rfl⟩ ⟨T1, x, y, rfl, hT, rfl, hx, hy⟩
        obtain rfl := (Option.some.inj hx)
        replace hy : (bs.map fun b => V.ref b.1)[i]? = some y := hy
        rw [List.getElem?_map] at hy
        cases hb : bs[i]? with
        | none => rw [hb] at hy; cases hy
        | some b =>
          rw [hb] at hy
          obtain rfl := (Option.some.inj hy)
          have hbm := List.mem_of_getElem? hb
          obtain ⟨bq, b1, b2⟩ := b
          have hei : D.es[i]? = some (b1, b2) := by rw [← eb, List.getElem?_map, hb]; rfl
          have he := List.mem_of_getElem? hei
          have ends := D.gt.ends _ he
          have s8 : Same H7 (upd H7 T1 (HO.tup [V.int (i : Nat), .ref bq])) := same_upd hT
          have e9 := e8.trans s8
          refine ⟨T1, _, rfl, SqT.of upd_same, rfl, _, _, rfl, _, _, rfl, ⟨bq, _, rfl, SqT.of (e9 _ _ (hbs _ hbm)), rfl, _, _, rfl, _, _, rfl, rfl, rfl, ?_⟩⟩
          have hcG := s8 _ _ hc
          generalize upd H7 T1 (HO.tup [V.int (i : Nat), .ref bq]) = H9 at e9 hcG
          have hne : c b1 ≠ c b2 := fun z => by
            obtain ⟨f, hf, h'⟩ := D.gt.cut _ he
            refine hf (uf.tel f (fun e' he' => h' e' (List.mem_of_mem_take he') fun ez => ?_) b1 b2 z)
            obtain ⟨j, hj, ej⟩ := List.mem_take_iff_getElem.mp he'
            obtain ⟨h1, h2⟩ := List.getElem?_eq_some_iff.mp hei
            have := (List.getElem_inj D.gt.nde (i := j) (j := i) (h₀ := by omega) (h₁ := h1)).mp (by rw [ej, h2, ez])
            omega
          refine ⟨_, rfl, _, rfl, _, rfl, D, G, b1, b2, c, rfl, hcG, ends.1, ends.2, hne, fun H10 b10 g10 => ⟨_, rfl, iteF ?_⟩⟩
          refine ⟨fun b o h => b10 _ _ (e9 _ _ h) (nr _ _ h), ⟨_, g10, ?_⟩, _, _, _, _, _, rfl⟩
          have et : D.es.take (i + 1) = D.es.take i ++ [(b1, b2)] := by
            obtain ⟨h1, h2⟩ := List.getElem?_eq_some_iff.mp hei
            rw [List.take_succ_eq_append_getElem h1, h2]
          rw [et]
          exact uf.step b1 b2
      · rintro σ H7 ⟨e8, ⟨c, hc, uf⟩, u1, u2, u3, u4, u5, rfl⟩
        rw [List.length_map, show bs.length = D.es.length from by rw [← eb, List.length_map], List.take_length] at uf
        obtain ⟨p0, pr, ep⟩ := TwM.ne_cons D.ne
        have hp0 : p0 ∈ D.ps := by rw [ep]; exact List.mem_cons_self
        have all : ∀ z ∈ D.ps, c z = c p0 := fun z hz => D.gt.conn (fun z => c z = c p0) (fun e he => by rw [uf.con e he]) p0 hp0 z hz rfl
        refine ⟨_, rfl, q, _, rfl, SqT.of (e8 _ _ hq), for_it walk_enumT (fun i σ H' => Same H H' ∧ H' G = some (.dK (dkv D.ps fun p => .str (c p))) ∧ ∃ (u1 u2 u3 u4 u5 : Option V), σ = [some (.ref q), some (.ref r), some (.ref G), u1, u2, u3, u4, u5])
          ⟨e8, hc, _, _, _, _, _, rfl⟩ (fun i σ H' _ e => SqT.of (e.1 _ _ hq)) ?_ ?_⟩
        · rintro i v σ H8 H9 hi ⟨e9, hc9, u1, u2, u3, u4, u5, rfl⟩ ⟨T1, x, y, rfl, hT, rfl, hx, hy⟩
          obtain rfl := (Option.some.inj hx)
          obtain ⟨z, hz, rfl⟩ := tv_get hy
          have hzp := List.mem_of_getElem? hz
          have s10 : Same H8 (upd H8 T1 (HO.tup [V.int (i : Nat), .str z])) := same_upd hT
          refine ⟨T1, _, rfl, SqT.of upd_same, rfl, _, _, rfl, _, _, rfl, rfl, ?_⟩
          have hcG := s10 _ _ hc9
          have e11 := e9.trans s10
          generalize upd H8 T1 (HO.tup [V.int (i : Nat), .str z]) = H11 at e11 hcG
          refine ⟨_, rfl, _, rfl, G, _, rfl, dget hcG (dkv_at hzp), _, rfl, _, rfl, q, _, _, _, rfl, rfl, SqT.of (e11 _ _ hq), atI_nat (j := 0) (tv_at (x := p0) (by rw [ep]; rfl)), G, _, rfl, dget hcG (dkv_at hp0), ?_⟩
          refine ⟨rfl, _, rfl, ?_⟩
          rw [all z hzp, decide_eq_true rfl]
          exact iteF ⟨e11, hcG, _, _, _, _, _, rfl⟩
        · rintro σ H8 ⟨e9, hc9, u1, u2, u3, u4, u5, rfl⟩
          exact qq _ e9
end
end Tw
namespace Tw
open PySem PySem.Spec PyProof.Rows L2
theorem nodup_le : ∀ {W l : List Str}, W.Nodup → (∀ x ∈ W, x ∈ l) → W.length ≤ l.length
  | [], _, _, _ => Nat.zero_le _
  | x :: W, l, h, hs => by
    have hx := hs x List.mem_cons_self
    obtain ⟨h1, h2⟩ := List.nodup_cons.mp h
    have ih := nodup_le (W := W) (l := l.erase x) h2 fun y hy => (List.mem_erase_of_ne (fun e => h1 (by rw [← e]; exact hy))).mpr (hs y (List.mem_cons_of_mem _ hy))
    rw [List.length_erase_of_mem hx] at ih
    have := List.length_pos_of_mem hx
    show W.length + 1 ≤ l.length
    omega
/-- what the walk through the tree knows: W the places found, the first n of them done -/
structure Bf (D : TD) (s : Str) (W : List Str) (n : Nat) : Prop where
  nd : W.Nodup
  sub : ∀ q ∈ W, q ∈ D.ps
  st : s ∈ W
  par : ∀ q ∈ W, q ≠ s → ∀ u, TwM.EdgeOf D.es q u → D.d s q = D.d s u + 1 → u ∈ W
  clo : ∀ j q, j < n → W[j]? = some q → ∀ v, TwM.EdgeOf D.es q v → v ∈ W
theorem Bf.len {D : TD} {s : Str} {W : List Str} {n : Nat} (b : Bf D s W n) : W.length ≤ 40 := Nat.le_trans (nodup_le b.nd b.sub) D.small
theorem Bf.far {D : TD} {s h v : Str} {W : List Str} {n : Nat} (b : Bf D s W n) (hh : h ∈ W) (e : TwM.EdgeOf D.es h v) (hv : v ∉ W) : D.d s v = D.d s h + 1 := by
  have hs := b.sub s b.st
  rcases D.gt.adj.step s hs h v e with q | q
  · by_cases z : h = s
    · rw [z, D.gt.tm.self s hs] at q; omega
    · exact absurd (b.par h hh z v e q) hv
  · exact q
theorem Bf.push {D : TD} {s h v : Str} {W : List Str} {n : Nat} (b : Bf D s W n) (hh : h ∈ W) (e : TwM.EdgeOf D.es h v) (hv : v ∉ W) (hn : n ≤ W.length) : Bf D s (W ++ [v]) n := by
  have hs := b.sub s b.st
  have hf := b.far hh e hv
  refine ⟨?_, fun q hq => ?_, List.mem_append_left _ b.st, fun q hq hqs u eu du => ?_, fun j q hj hq u eu => ?_⟩
  · rw [List.nodup_append]
    exact ⟨b.nd, by simp, fun x hx y hy z => by rw [List.mem_singleton] at hy; rw [z, hy] at hx; exact hv hx⟩
  · rcases List.mem_append.mp hq with hq | hq
    · exact b.sub q hq
    · rw [List.mem_singleton.mp hq]; exact (D.gt.edge_mem e).2
  · rcases List.mem_append.mp hq with hq | hq
    · exact List.mem_append_left _ (b.par q hq hqs u eu du)
    · obtain rfl := List.mem_singleton.mp hq
      have : u = h := D.gt.adj.uni s hs q u h eu e.symm du hf
      rw [this]; exact List.mem_append_left _ hh
  · rw [List.getElem?_append_left (by omega)] at hq
    exact List.mem_append_left _ (b.clo j q hj hq u eu)
theorem Bf.all {D : TD} {s : Str} {W : List Str} {n : Nat} (b : Bf D s W n) (hn : W.length ≤ n) : ∀ q ∈ D.ps, q ∈ W := fun q hq =>
  D.gt.conn (fun z => z ∈ W) (fun e he => by
    have key : ∀ x v, x ∈ W → TwM.EdgeOf D.es x v → v ∈ W := fun x v hx ev => by
      obtain ⟨j, hj, ej⟩ := List.mem_iff_getElem.mp hx
      exact b.clo j x (by omega) (by rw [List.getElem?_eq_getElem hj, ej]) v ev
    exact ⟨fun h => key _ _ h (.inl he), fun h => key _ _ h (.inr he)⟩) s (b.sub s b.st) q hq b.st
/-- the dict of the distances found so far -/
def GapD (D : TD) (s : Str) (W : List Str) (kvs : List (Key × V)) : Prop := kvs.length ≤ W.length ∧ ∀ q : Str, valV kvs (.inr q) = if q ∈ W then some (.int (D.d s q)) else none
def NearD (D : TD) (H : Hp) (nd : Addr) : Prop := ∃ na : Str → Addr, H nd = some (.dK (dkv D.ps fun p => .ref (na p))) ∧ ∀ p ∈ D.ps, H (na p) = some (.tup (tv (nearL D p)))
theorem NearD.mono {D : TD} {H H' : Hp} {nd : Addr} (h : NearD D H nd) (e : Same H H') : NearD D H' nd := by
  obtain ⟨na, h1, h2⟩ := h
  exact ⟨na, e _ _ h1, fun p hp => e _ _ (h2 p hp)⟩
def spGapsFrom : Sp := fun vs H Q _ => ∃ (D : TD) (nd : Addr) (s : Str), vs = [.ref nd, .str s] ∧ NearD D H nd ∧ s ∈ D.ps ∧
  ∀ r kvs H', Same H H' → H r = none → H' r = some (.dK kvs) → (∀ q ∈ D.ps, valV kvs (.inr q) = some (.int (D.d s q))) → Q (.ref r) H'
section
variable {P : Program} {w : World} {K : PySem.W.Frag} {mg : Str → Option Value} {base : Heap} {a : Ads}
theorem ok_gaps_from (T : Txt P K mg a) : FnR P w K mg base CX0 1 a.f_gaps_from spGapsFrom := by
  obtain ⟨fd, F⟩ := T.F_gaps_from
  refine okR F sc_gaps_from (fun vs H Q E h => ?_) (fun _ _ _ _ _ _ us hl => match us, hl with | [_, _], _ => rfl) (fun cdv A outer s0 H vs Q E hr h => ?_)
  · obtain ⟨D, nd, s, rfl, _⟩ := h
    rfl
  · obtain ⟨D, nd, s, rfl, hN, hs, qq⟩ := h
    have hu := hu_of hr
    obtain ⟨na, hnd, hna⟩ := hN
    refine ⟨_, (pss_cons (ps_par3 (i := 2) (j := 3) (l := 4) rfl sc_gaps_from.nd rfl rfl rfl (by decide) (by decide) (by decide) rfl rfl rfl (pa_cons (pe_disp (pps_cons (pv 1) pe_int pps_nil) (by rfl) (by rfl) (fun z => by cases z) (by decide)) (pa_cons (pe_lst (pa_cons (pv 1) pa_nil)) (pa_cons pe_int pa_nil))) (by rfl))
  (pss_cons (ps_while PassesOwn.never (pt_cmpR op_lt (pv 4) (pe_callB call_len_seq (by rfl) T.n_len PySem.boot_len (pa_cons (pv 3) pa_nil)) (nomark _))
    (pss_cons (ps_set (i := 5) sc_gaps_from.nd rfl (Or.inl rfl) (pe_ix ix_list (pv 3) (pv 4) (fun _ _ => rfl)))
  (pss_cons (ps_aug (i := 4) sc_gaps_from.nd rfl (Or.inl rfl) pe_int ip_add)
  (pss_one (ps_for PassesOwn.never rfl (pi_tup (pe_dget hu (pv 0) (pv 5) (fun _ _ => rfl))) (pg_name (i := 6) sc_gaps_from.nd rfl (Or.inl rfl))
    (pss_one (ps_if (pt_cmp (pc_dnotin hu (pv 6) (pv 2))) (pss_cons (ps_dput hu (pv 2) (pv 6) (pe_op op_add (pe_dget hu (pv 2) (pv 5) (fun _ _ => rfl)) pe_int) rfl)
  (pss_one (ps_expr (pe_bm PySem.F.plainAttrs_list PySem.F.slot_list_append PySem.F.type_list_append mt_append (pv 3) (pa_cons (pv 6) pa_nil))))) pss_nil)))))))
  (pss_one (ps_ret (pv 2))))), ?_⟩
    refine fun g hg => ⟨_, rfl, upd_same, [(Sum.inr s, .int 0)], rfl, by show 1 ≤ 15; decide, _, rfl, by show 1 ≤ sizeLine; decide, fun l hl => ⟨_, _, _, rfl, ?_⟩⟩
    have eg : mergeK ([] : List (Key × V)) [(Sum.inr s, .int 0)] = [(Sum.inr s, .int 0)] := rfl
    rw [eg, upd_upd] at hl ⊢
    have hs0 := D.gt.tm.self s hs
    have e1 : Same H (upd (upd H g (.dK [(Sum.inr s, .int 0)])) l (.lst (tv [s]))) := Same.upd' (same_upd hg) hl
    have hlH : H l = none := (same_upd hg).free hl
    have hgl : g ≠ l := fun z => by rw [← z, upd_same] at hl; cases hl
    have keep : ∀ {H' : Hp} (kvs : List (Key × V)) (ws : List V), Same H H' → Same H (upd (upd H' g (.dK kvs)) l (.lst ws)) := fun kvs ws e b o h => by
      rw [upd_ne (ne_of_none h hlH), upd_ne (ne_of_none h hg)]; exact e _ _ h
    -- while index < len(waiting)
    refine while_by (fun σ H' => Same H H' ∧ ∃ (W : List Str) (n : Nat) (kvs : List (Key × V)) (u1 u2 : Option V), Bf D s W n ∧ n ≤ W.length ∧ GapD D s W kvs ∧ H' g = some (.dK kvs) ∧ H' l = some (.lst (tv W)) ∧ σ = [some (.ref nd), some (.str s), some (.ref g), some (.ref l), some (.int n), u1, u2])
      (fun σ H' => match σ with | [_, _, _, _, some (.int n), _, _] => 41 - n.toNat | _ => 0)
      ⟨e1, [s], 0, [(Sum.inr s, .int 0)], none, none, ⟨by simp, fun q hq => by rw [List.mem_singleton.mp hq]; exact hs, List.mem_cons_self, fun q hq hqs => absurd (List.mem_singleton.mp hq) hqs, fun j q hj => by omega⟩, Nat.zero_le _, ⟨Nat.le_refl 1, fun q => ?_⟩, by rw [upd_ne hgl]; exact upd_same, upd_same, rfl⟩ (fun σ H2 h => ?_) ?_
    · by_cases e : s = q
      · subst e
        rw [valV_pos (p := (Sum.inr s, V.int 0)) rfl, if_pos List.mem_cons_self, hs0]; rfl
      · rw [valV_neg (p := (Sum.inr s, V.int 0)) (fun z => e (Sum.inr.inj z)), if_neg (fun z => e (List.mem_singleton.mp z).symm)]; rfl
    · obtain ⟨e2, W, n, kvs, u1, u2, bf, hn, gd, hG, hL, rfl⟩ := h
      have wl := bf.len
      refine ⟨_, rfl, _, rfl, l, _, rfl, .inl (SqL.of hL), _, _, rfl, rfl, _, rfl, ?_⟩
      rw [tv_length]
      refine ite2 (fun hc => ?_) (fun hc => ?_)
      · have hlt : n < W.length := by have := of_decide_eq_true hc; omega
        obtain ⟨h, hh⟩ : ∃ h, W[n]? = some h := ⟨_, List.getElem?_eq_getElem hlt⟩
        have hhW := List.mem_of_getElem? hh
        have hhp := bf.sub h hhW
        refine ⟨_, rfl, _, rfl, l, _, _, _, rfl, rfl, SqL.of hL, atI_nat (tv_at hh), ?_⟩
        refine ⟨_, rfl, _, _, rfl, rfl, ?_⟩
        refine ⟨_, rfl, _, rfl, nd, _, rfl, dget (e2 _ _ hnd) (dkv_at hhp), na h, rfl, ⟨_, SqT.of (e2 _ _ (hna h hhp))⟩, for_tup (K := K) (a := na h) (xs := tv (nearL D h)) (fun i σ H' => Same H H' ∧ ∃ (W' : List Str) (kvs : List (Key × V)) (u2 : Option V), W'.length ≥ W.length ∧ W'[n]? = some h ∧ Bf D s W' n ∧ (∀ v ∈ (nearL D h).take i, v ∈ W') ∧ GapD D s W' kvs ∧ H' g = some (.dK kvs) ∧ H' l = some (.lst (tv W')) ∧ σ = [some (.ref nd), some (.str s), some (.ref g), some (.ref l), some (.int ((n : Int) + 1)), some (.str h), u2])
          ⟨e2, W, kvs, u2, Nat.le_refl _, hh, bf, fun v hv => by simp at hv, gd, hG, hL, rfl⟩ (fun i σ H' _ e => SqT.of (e.1 _ _ (hna h hhp))) ?_ ?_⟩
        · rintro i v σ H3 hi ⟨e3, W', kvs', u2', hw, hh', bf', hall, gd', hG', hL', rfl⟩
          obtain ⟨z, hz, rfl⟩ := tv_get hi
          have hze := of_decide_eq_true (List.mem_filter.mp (List.mem_of_getElem? hz)).2
          have hh'W := List.mem_of_getElem? hh'
          have wl' := bf'.len
          refine ⟨_, rfl, _, rfl, g, _, rfl, DGet.k (k := Sum.inr z) hG', _, rfl, ?_⟩
          rw [gd'.2 z]
          by_cases hzW : z ∈ W'
          · rw [if_pos hzW]
            refine iteF ⟨e3, W', kvs', _, hw, hh', bf', fun v hv => ?_, gd', hG', hL', rfl⟩
            rcases (mem_take_succ hz).mp hv with hv | hv
            · exact hall v hv
            · rw [hv]; exact hzW
          · rw [if_neg hzW]
            refine iteT ?_
            refine ⟨_, rfl, _, rfl, g, _, rfl, DGet.k (k := Sum.inr h) hG' |> (fun q => by rw [gd'.2 h, if_pos hh'W] at q; exact q), _, _, rfl, rfl, _, rfl, _, rfl, g, _, rfl, DPut.k (k := Sum.inr z) hG' (sz_small (by have := gd'.1; omega)), ?_⟩
            have hlg : l ≠ g := Ne.symm hgl
            refine ⟨_, rfl, .inl ⟨rfl, _, SqL.of (by rw [upd_ne hlg]; exact hL')⟩, _, rfl, l, _, _, rfl, rfl, by rw [upd_ne hlg]; exact hL', by rw [tv_length]; exact sz_small (by omega), ?_⟩
            have hfar := bf'.far hh'W hze hzW
            refine ⟨keep _ _ e3, W' ++ [z], _, _, by rw [List.length_append]; omega, by rw [List.getElem?_append_left (by omega)]; exact hh', bf'.push hh'W hze hzW (by omega), fun v hv => ?_, ⟨?_, fun q => ?_⟩, by rw [upd_ne hgl]; exact upd_same, ?_, rfl⟩
            · rcases (mem_take_succ hz).mp hv with hv | hv
              · exact List.mem_append_left _ (hall v hv)
              · rw [hv]; exact List.mem_append_right _ List.mem_cons_self
            · have := length_putK kvs' (Sum.inr z : Key) ((fun i j => V.int (i + j)) (D.d s h : Int) 1)
              have := gd'.1
              rw [List.length_append]
              show _ ≤ W'.length + 1
              omega
            · rw [valV_put, gd'.2 q]
              by_cases e : q = z
              · rw [if_pos (by rw [e]), if_pos (List.mem_append_right _ (List.mem_singleton.mpr e)), e, hfar]; rfl
              · rw [if_neg (fun y => e (Sum.inr.inj y))]
                by_cases hq : q ∈ W'
                · rw [if_pos hq, if_pos (List.mem_append_left _ hq)]
                · rw [if_neg hq, if_neg (fun y => by rcases List.mem_append.mp y with y | y; exact hq y; exact e (List.mem_singleton.mp y))]
            · rw [upd_same]
              unfold tv
              rw [List.map_append]; rfl
        · rintro σ H3 ⟨e3, W', kvs', u2', hw, hh', bf', hall, gd', hG', hL', rfl⟩
          rw [tv_length, List.take_length] at hall
          refine ⟨⟨e3, W', n + 1, kvs', _, _, ⟨bf'.nd, bf'.sub, bf'.st, bf'.par, fun j q hj hq u eu => ?_⟩, by omega, gd', hG', hL', rfl⟩, ?_⟩
          · by_cases ej : j = n
            · rw [ej, hh'] at hq
              obtain rfl := Option.some.inj hq
              exact hall u (List.mem_filter.mpr ⟨(D.gt.edge_mem eu).2, decide_eq_true eu⟩)
            · exact bf'.clo j q (by omega) hq u eu
          · show 41 - ((n : Int) + 1).toNat < 41 - ((n : Int)).toNat
            omega
      · have hge : W.length ≤ n := by
          rcases Nat.lt_or_ge n W.length with z | z
          · exact absurd (decide_eq_true (by omega)) hc
          · exact z
        refine ⟨_, rfl, ?_⟩
        exact qq g kvs H2 e2 hg hG fun q hq => by rw [gd.2 q, if_pos (bf.all hge q hq)]
    · rintro σ H2 Q1 Q2 m ⟨v, h1, w1, h2, p, ys, h3, h4, i, j, h5, h6, k, h7, q⟩
      exact ⟨v, h1, w1, h2, p, ys, h3, h4, i, j, h5, h6, k, h7, m _ _ q⟩
end
end Tw
namespace Tw
open PySem PySem.Spec PyProof.Rows L2
def refOf : V → Addr
  | .ref r => r
  | _ => 0
/-- what is new in H', and t and q -/
def Nw (H : Hp) (t q : Addr) (H' : Hp) : Hp := fun b => if H b = none ∨ b = t ∨ b = q then H' b else none
theorem Nw.at {H H' : Hp} {t q b : Addr} {o : HO} (h : H' b = some o) (hb : H b = none ∨ b = t ∨ b = q) : Nw H t q H' b = some o := by unfold Nw; rw [if_pos hb]; exact h
theorem Nw.some {H H' : Hp} {t q b : Addr} {o : HO} (h : Nw H t q H' b = some o) : (H b = none ∨ b = t ∨ b = q) ∧ H' b = some o := by
  unfold Nw at h
  split at h
  · rename_i z; exact ⟨z, h⟩
  · cases h
def spTreeInit (a : Ads) : Sp := fun vs H Q _ => ∃ (D : TD) (t aP aE dx : Addr), vs = [.ref t, .ref aP, .ref aE] ∧ H t = some (.ins a.c_Tree dx []) ∧ H aP = some (.tup (tv D.ps)) ∧ PairsAt H aE D.es ∧ ∀ H', But t H H' → TreeAt a D (Nw H t aP H') t → Q .non H'
section
variable {P : Program} {w : World} {K : PySem.W.Frag} {mg : Str → Option Value} {base : Heap} {a : Ads}
theorem ok_TreeX_initX (T : Txt P K mg a) : FnR P w K mg base CX0 4 a.f_TreeX_initX (spTreeInit a) := by
  obtain ⟨fd, F⟩ := T.F_TreeX_initX
  have ok_check_tree := ok_check_tree (P := P) (w := w) (base := base) T
  have ok_gaps_from := ok_gaps_from (P := P) (w := w) (base := base) T
  refine okR F sc_TreeX_initX (fun vs H Q E h => ?_) (fun _ _ _ _ _ _ us hl => match us, hl with | [_, _, _], _ => rfl) (fun cdv A outer s0 H vs Q E hr h => ?_)
  · obtain ⟨D, t, aP, aE, dx, rfl, _⟩ := h
    rfl
  · obtain ⟨D, t, aP, aE, dx, rfl, ht, hP, hE, qq⟩ := h
    have hu := hu_of hr
    have n1 := D.small
    refine ⟨_, (pss_cons (ps_expr (cR T.g_check_tree ok_check_tree (hr.mono (by decide)) (by rfl) (pa_cons (pv 1) (pa_cons (pv 2) pa_nil))))
  (pss_cons (ps_fld (pv 0) (pv 1) rfl)
  (pss_cons (ps_fld (pv 0) (pv 2) rfl)
  (pss_cons (ps_fld (pv 0) pe_dnewK rfl)
  (pss_cons (ps_for PassesOwn.never rfl (pi_tup (pv 1)) (pg_name (i := 3) sc_TreeX_initX.nd rfl (Or.inr rfl))
    (pss_cons (ps_set (i := 4) sc_TreeX_initX.nd rfl (Or.inr rfl) (pe_op op_cat (pe_lc (own := [("one", 5), ("other", 6)]) rfl sc_TreeX_initX.nd (pi_tup (pv 2)) (blkOk_by (own := [("one", 5), ("other", 6)]) (N := N_TreeX_initX) (sc := (defScope s_TreeX_initX)) (by decide +kernel)) (fun _ _ _ _ _ => (pg_tupK (K := K) (n := 2) rfl rfl (pgs_cons (pg_name (i := 5) sc_TreeX_initX.nd rfl (Or.inl rfl)) (pgs_cons (pg_name (i := 6) sc_TreeX_initX.nd rfl (Or.inl rfl)) pgs_nil)))) (fun _ _ _ _ _ => (pts_one (pt_cmpR op_eq (pv 6) (pv 3) (nomark _)))) (fun _ _ _ _ _ => (pv 5))) (pe_lc (own := [("one", 5), ("other", 6)]) rfl sc_TreeX_initX.nd (pi_tup (pv 2)) (blkOk_by (own := [("one", 5), ("other", 6)]) (N := N_TreeX_initX) (sc := (defScope s_TreeX_initX)) (by decide +kernel)) (fun _ _ _ _ _ => (pg_tupK (K := K) (n := 2) rfl rfl (pgs_cons (pg_name (i := 5) sc_TreeX_initX.nd rfl (Or.inl rfl)) (pgs_cons (pg_name (i := 6) sc_TreeX_initX.nd rfl (Or.inl rfl)) pgs_nil)))) (fun _ _ _ _ _ => (pts_one (pt_cmpR op_eq (pv 5) (pv 3) (nomark _)))) (fun _ _ _ _ _ => (pv 6)))))
  (pss_one (ps_dput hu (pe_fld (pv 0) rfl) (pv 3) (pe_callTy call_tuple_of (by rfl) T.n_tuple (by decide +kernel) (pa_cons (pe_lc (own := [("end", 7)]) rfl sc_TreeX_initX.nd (pi_tup (pv 1)) (blkOk_by (own := [("end", 7)]) (N := N_TreeX_initX) (sc := (defScope s_TreeX_initX)) (by decide +kernel)) (fun _ _ _ _ _ => (pg_name (i := 7) sc_TreeX_initX.nd rfl (Or.inl rfl))) (fun _ _ _ _ _ => (pts_one (pt_cmpR (op_in_seqK (K := K) rfl) (pv 7) (pv 4) (by rfl)))) (fun _ _ _ _ _ => (pv 7))) pa_nil)) rfl))))
  (pss_one (ps_fld (pv 0) (pe_dc (own := [("place", 3)]) rfl sc_TreeX_initX.nd (pi_tup (pv 1)) (blkOk_by (own := [("place", 3)]) (N := N_TreeX_initX) (sc := (defScope s_TreeX_initX)) (by decide +kernel)) (fun _ _ _ _ _ => (pg_name (i := 3) sc_TreeX_initX.nd rfl (Or.inl rfl))) (fun _ _ _ _ _ => pts_nil) (fun _ _ _ _ _ => (pv 3)) (fun _ _ _ _ _ => (cR T.g_gaps_from ok_gaps_from (hr.mono (by decide)) (by rfl) (pa_cons (pe_fldK (K := K) rfl (pv 0) rfl) (pa_cons (pv 3) pa_nil))))) rfl))))))), ?_⟩
    refine ⟨_, rfl, _, rfl, D, aP, aE, rfl, hP, hE, fun H1 e1 => ?_⟩
    refine ⟨_, rfl, _, rfl, t, _, dx, _, rfl, e1 _ _ ht, T.cl_Tree, T.na_own_places, small_len (m := 0) (by kernel_rfl) (by decide), ?_⟩
    refine ⟨_, rfl, _, rfl, t, _, dx, _, rfl, upd_same, T.cl_Tree, T.na_own_edges, small_len (m := 1) (by kernel_rfl) (by decide), ?_⟩
    rw [upd_upd]
    refine fun nd hnd => ?_
    have ntnd : t ≠ nd := fun z => by rw [← z, upd_same] at hnd; cases hnd
    refine ⟨_, rfl, t, _, dx, _, rfl, (by rw [upd_ne ntnd]; exact upd_same), T.cl_Tree, T.na_near, small_len (m := 2) (by kernel_rfl) (by decide), ?_⟩
    have tH : ∀ {b : Addr} {o : HO}, H b = some o → (∀ C dx fs, o ≠ .ins C dx fs) → b ≠ t := fun h no z => by rw [z, ht] at h; exact no _ _ _ (Option.some.inj h).symm
    have aPt : aP ≠ t := tH hP fun _ _ _ z => by cases z
    obtain ⟨bs, eb, hR, hbs⟩ := hE
    have aEt : aE ≠ t := tH hR fun _ _ _ z => by cases z
    have bst : ∀ b ∈ bs, b.1 ≠ t := fun b hb => tH (hbs b hb) fun _ _ _ z => by cases z
    have lb : bs.length ≤ 40 := by
      have h1 := D.esm
      rw [← eb, List.length_map] at h1
      exact h1
    have hndH : H nd = none := by
      rw [upd_ne (Ne.symm ntnd)] at hnd
      exact e1.free hnd
    have b1 : But t H (upd (upd (upd H1 t (HO.ins a.c_Tree dx (putF "own_edges" (.ref aE) (putF "own_places" (.ref aP) [])))) nd (.dK [])) t (HO.ins a.c_Tree dx (putF "near" (.ref nd) (putF "own_edges" (.ref aE) (putF "own_places" (.ref aP) []))))) := fun b o h n => by
      rw [upd_ne n, upd_ne (ne_of_none h hndH), upd_ne n]; exact e1 _ _ h
    have fsE : putF "near" (V.ref nd) (putF "own_edges" (V.ref aE) (putF "own_places" (V.ref aP) [])) = ([("own_places", V.ref aP), ("own_edges", V.ref aE), ("near", V.ref nd)] : List (Str × V)) := by kernel_rfl
    have hn0 : upd (upd (upd H1 t (HO.ins a.c_Tree dx (putF "own_edges" (.ref aE) (putF "own_places" (.ref aP) [])))) nd (.dK [])) t (HO.ins a.c_Tree dx (putF "near" (.ref nd) (putF "own_edges" (.ref aE) (putF "own_places" (.ref aP) [])))) nd = some (.dK []) := by rw [upd_ne (Ne.symm ntnd)]; exact upd_same
    have ht0 : upd (upd (upd H1 t (HO.ins a.c_Tree dx (putF "own_edges" (.ref aE) (putF "own_places" (.ref aP) [])))) nd (.dK [])) t (HO.ins a.c_Tree dx (putF "near" (.ref nd) (putF "own_edges" (.ref aE) (putF "own_places" (.ref aP) [])))) t = some (.ins a.c_Tree dx [("own_places", .ref aP), ("own_edges", .ref aE), ("near", .ref nd)]) := by rw [upd_same, fsE]
    generalize upd (upd (upd H1 t (HO.ins a.c_Tree dx (putF "own_edges" (.ref aE) (putF "own_places" (.ref aP) [])))) nd (.dK [])) t (HO.ins a.c_Tree dx (putF "near" (.ref nd) (putF "own_edges" (.ref aE) (putF "own_places" (.ref aP) [])))) = H2 at b1 hn0 ht0 ⊢
    refine ⟨_, rfl, aP, rfl, ⟨_, SqT.of (b1 _ _ hP aPt)⟩, for_tup (K := K) (a := aP) (xs := tv D.ps) (fun i σ H' => But t H H' ∧ H' t = some (.ins a.c_Tree dx [("own_places", .ref aP), ("own_edges", .ref aE), ("near", .ref nd)]) ∧ (∃ na : Str → Addr, H' nd = some (.dK (dkv (D.ps.take i) fun p => .ref (na p))) ∧ ∀ p ∈ D.ps.take i, H (na p) = none ∧ H' (na p) = some (.tup (tv (nearL D p)))) ∧
      ∃ (u1 u2 : Option V), σ = [some (.ref t), some (.ref aP), some (.ref aE), u1, u2, none, none, none]) ⟨b1, ht0, ⟨fun _ => 0, hn0, fun p hp => by simp at hp⟩, _, _, rfl⟩ (fun i σ H' _ e => SqT.of (e.1 _ _ hP aPt)) ?_ ?_⟩
    · rintro i v σ H3 hi ⟨b3, ht3, ⟨na, hnd3, hna3⟩, u1, u2, rfl⟩
      obtain ⟨x, hx, rfl⟩ := tv_get hi
      have hxp := List.mem_of_getElem? hx
      have hnot : x ∉ D.ps.take i := by
        intro hm
        obtain ⟨j, hj, ej⟩ := List.mem_take_iff_getElem.mp hm
        obtain ⟨h1, h2⟩ := List.getElem?_eq_some_iff.mp hx
        have := (List.getElem_inj D.gt.nd (i := j) (j := i) (h₀ := by omega) (h₁ := h1)).mp (by rw [ej, h2])
        omega
      have et : D.ps.take (i + 1) = D.ps.take i ++ [x] := by
        obtain ⟨h1, h2⟩ := List.getElem?_eq_some_iff.mp hx
        rw [List.take_succ_eq_append_getElem h1, h2]
      refine ⟨_, rfl, aE, rfl, ⟨_, SqT.of (b3 _ _ hR aEt)⟩, fun B hB => lc_sel (l := bs) (mk := fun b => .ref b.1) (fun b => decide (b.2.2 = x)) (fun b => .str b.2.1) walk_tup (fun H' e => SqT.of (e _ _ (b3 _ _ hR aEt))) (by omega) hB (fun b hb H4 e N1 N2 n => ?_) (fun H4 e4 hd4 => ?_)⟩
      · refine ⟨b.1, _, rfl, SqT.of (e _ _ (b3 _ _ (hbs b hb) (bst b hb))), rfl, _, _, rfl, _, _, rfl, rfl, rfl, _, rfl, _, rfl, rfl, _, rfl, ?_⟩
        refine ite2 (fun hc => ?_) (fun hc => ?_)
        · exact ⟨_, rfl, (n H4 fun _ _ z => z).2 (decide_eq_true (V.str.inj (of_decide_eq_true hc)))⟩
        · exact (n H4 fun _ _ z => z).1 (decide_eq_false fun z => hc (decide_eq_true (congrArg V.str z)))
      · refine ⟨_, rfl, aE, rfl, ⟨_, SqT.of (e4 _ _ (b3 _ _ hR aEt))⟩, fun B2 hB2 => lc_sel (l := bs) (mk := fun b => .ref b.1) (fun b => decide (b.2.1 = x)) (fun b => .str b.2.2) walk_tup (fun H' e => SqT.of (e _ _ (e4 _ _ (b3 _ _ hR aEt)))) (by omega) hB2 (fun b hb H5 e N1 N2 n => ?_) (fun H5 e5 hd5 => ?_)⟩
        · refine ⟨b.1, _, rfl, SqT.of (e _ _ (e4 _ _ (b3 _ _ (hbs b hb) (bst b hb)))), rfl, _, _, rfl, _, _, rfl, rfl, rfl, _, rfl, _, rfl, rfl, _, rfl, ?_⟩
          refine ite2 (fun hc => ?_) (fun hc => ?_)
          · exact ⟨_, rfl, (n H5 fun _ _ z => z).2 (decide_eq_true (V.str.inj (of_decide_eq_true hc)))⟩
          · exact (n H5 fun _ _ z => z).1 (decide_eq_false fun z => hc (decide_eq_true (congrArg V.str z)))
        · have l1 : ((bs.filter fun b => decide (b.2.2 = x)).map fun b => V.str b.2.1).length ≤ 40 := by rw [List.length_map]; exact Nat.le_trans (List.length_filter_le _ _) lb
          have l2 : ((bs.filter fun b => decide (b.2.1 = x)).map fun b => V.str b.2.2).length ≤ 40 := by rw [List.length_map]; exact Nat.le_trans (List.length_filter_le _ _) lb
          refine ⟨B, B2, _, _, rfl, rfl, e5 _ _ hd4, hd5, (by have h80 : (80 : Nat) ≤ sizeLine := (by decide); omega), fun L hL => ?_⟩
          have e6 := (e4.trans e5).trans (same_upd (o := HO.lst (((bs.filter fun b => decide (b.2.2 = x)).map fun b => V.str b.2.1) ++ ((bs.filter fun b => decide (b.2.1 = x)).map fun b => V.str b.2.2))) hL)
          have el : ((bs.filter fun b => decide (b.2.2 = x)).map fun b => V.str b.2.1) ++ ((bs.filter fun b => decide (b.2.1 = x)).map fun b => V.str b.2.2) = tv (((bs.filter fun b => decide (b.2.2 = x)).map fun b => b.2.1) ++ ((bs.filter fun b => decide (b.2.1 = x)).map fun b => b.2.2)) := by
            unfold tv
            rw [List.map_append, List.map_map, List.map_map]; rfl
          have hL6 : upd H5 L (HO.lst (((bs.filter fun b => decide (b.2.2 = x)).map fun b => V.str b.2.1) ++ ((bs.filter fun b => decide (b.2.1 = x)).map fun b => V.str b.2.2))) L = some (.lst (tv (((bs.filter fun b => decide (b.2.2 = x)).map fun b => b.2.1) ++ ((bs.filter fun b => decide (b.2.1 = x)).map fun b => b.2.2)))) := by rw [upd_same, el]
          generalize upd H5 L (HO.lst (((bs.filter fun b => decide (b.2.2 = x)).map fun b => V.str b.2.1) ++ ((bs.filter fun b => decide (b.2.1 = x)).map fun b => V.str b.2.2))) = H6 at e6 hL6
          have mL : ∀ z, decide (z ∈ (((bs.filter fun b => decide (b.2.2 = x)).map fun b => b.2.1) ++ ((bs.filter fun b => decide (b.2.1 = x)).map fun b => b.2.2))) = decide (TwM.EdgeOf D.es x z) := fun z => by
            rw [Bool.eq_iff_iff, decide_eq_true_iff, decide_eq_true_iff, List.mem_append, List.mem_map, List.mem_map]
            constructor
            · rintro (⟨b, hb, rfl⟩ | ⟨b, hb, rfl⟩)
              · obtain ⟨h1, h2⟩ := List.mem_filter.mp hb
                refine .inr ?_
                rw [← eb]; exact List.mem_map.mpr ⟨b, h1, by rw [← of_decide_eq_true h2]⟩
              · obtain ⟨h1, h2⟩ := List.mem_filter.mp hb
                refine .inl ?_
                rw [← eb]; exact List.mem_map.mpr ⟨b, h1, by rw [← of_decide_eq_true h2]⟩
            · rintro (h | h)
              · rw [← eb] at h
                obtain ⟨b, hb, e⟩ := List.mem_map.mp h
                exact .inr ⟨b, List.mem_filter.mpr ⟨hb, decide_eq_true (by rw [e])⟩, by rw [e]⟩
              · rw [← eb] at h
                obtain ⟨b, hb, e⟩ := List.mem_map.mp h
                exact .inl ⟨b, List.mem_filter.mpr ⟨hb, decide_eq_true (by rw [e])⟩, by rw [e]⟩
          refine ⟨_, rfl, aP, rfl, ⟨_, SqT.of (e6 _ _ (b3 _ _ hP aPt))⟩, fun B3 hB3 => lc_pick (i := 7) (l := D.ps) (fun z => decide (TwM.EdgeOf D.es x z)) (walk_tup (K := K) (a := aP)) (fun H' e => SqT.of (e _ _ (e6 _ _ (b3 _ _ hP aPt)))) (by omega) hB3 (fun _ => rfl) (fun _ => rfl) (fun z hz H' R e r => ?_) ?_⟩
          · refine ⟨_, rfl, _, rfl, L, _, rfl, .inl (SqL.of (e _ _ hL6)), rfl, tv_flat _, _, rfl, ?_⟩
            show R (inV (.str z) (tv _)) H'
            rw [tv_in, mL]
            exact r
          · refine ⟨B3, _, rfl, .inl ⟨SqL.of upd_same, fun p hp => ?_⟩⟩
            have e7 := e6.trans (Same.upd' (o := HO.tup (tv (nearL D x))) (same_upd (o := HO.lst (tv (nearL D x))) hB3) hp)
            have hp7 : upd (upd H6 B3 (HO.lst (tv (nearL D x)))) p (HO.tup (tv (nearL D x))) p = some (.tup (tv (nearL D x))) := upd_same
            have hp6 : H6 p = none := (same_upd hB3).free hp
            have hpH : H p = none := by
              cases z : H p with
              | none => rfl
              | some o =>
                have hpt : p ≠ t := fun y => by rw [y, e6 _ _ ht3] at hp6; cases hp6
                have := e6 _ _ (b3 _ _ z hpt)
                rw [hp6] at this; cases this
            show tFld _ _ _ _ (upd (upd H6 B3 (HO.lst (tv (nearL D x)))) p (HO.tup (tv (nearL D x)))) _
            generalize upd (upd H6 B3 (HO.lst (tv (nearL D x)))) p (HO.tup (tv (nearL D x))) = H7 at e7 hp7
            have nnd : nd ≠ t := Ne.symm ntnd
            refine ⟨_, rfl, t, _, dx, _, _, rfl, e7 _ _ ht3, T.cl_Tree, T.na_near, by kernel_rfl, _, rfl, nd, _, rfl, DPut.k (k := Sum.inr x) (e7 _ _ hnd3) (by rw [dkv_length]; exact sz_small (Nat.le_trans (by rw [List.length_take]; exact Nat.min_le_right _ _) (by omega : D.ps.length ≤ 1000))), ?_, ?_, ⟨fun q => if q = x then p else na q, ?_, fun q hq => ?_⟩, _, _, rfl⟩
            · exact fun b o h n => by rw [upd_ne (ne_of_none h hndH)]; exact e7 _ _ (b3 _ _ h n)
            · rw [upd_ne ntnd]; exact e7 _ _ ht3
            · rw [upd_same, et]
              have := putK_add (l := D.ps.take i) (f := fun q => V.ref (if q = x then p else na q)) hnot
              rw [show (if x = x then p else na x) = p from if_pos rfl] at this
              rw [← this]
              congr 3
              refine dkv_congr fun q hq => ?_
              have hqx : q ≠ x := fun z => hnot (by rw [← z]; exact hq)
              rw [if_neg hqx]
            · have hpnd : p ≠ nd := fun z => by rw [z] at hp7; rw [e7 _ _ hnd3] at hp7; cases hp7
              show H (if q = x then p else na q) = none ∧ upd H7 nd _ (if q = x then p else na q) = _
              by_cases e : q = x
              · rw [if_pos e, upd_ne hpnd, e]; exact ⟨hpH, hp7⟩
              · rw [if_neg e]
                rw [et] at hq
                rcases List.mem_append.mp hq with hq | hq
                · obtain ⟨h9, h8⟩ := hna3 q hq
                  have : na q ≠ nd := fun z => by rw [z, hnd3] at h8; cases h8
                  rw [upd_ne this]; exact ⟨h9, e7 _ _ h8⟩
                · exact absurd (List.mem_singleton.mp hq) e
    · rintro σ H3 ⟨b3, ht3, ⟨na, hnd3, hna3⟩, u1, u2, rfl⟩
      rw [tv_length, List.take_length] at hnd3 hna3
      have nN : NearD D H3 nd := ⟨na, hnd3, fun p hp => (hna3 p hp).2⟩
      refine ⟨_, rfl, aP, rfl, ⟨_, SqT.of (b3 _ _ hP aPt)⟩, fun G hG => dc_texts (fun H' p v => ∃ r kvs, v = .ref r ∧ r ≠ G ∧ H' r = some (.dK kvs) ∧ (∀ q ∈ D.ps, valV kvs (.inr q) = some (.int (D.d p q))) ∧ H3 r = none) (fun H' H'' p v m ⟨r, kvs, h1, h2, h3, h4, h5⟩ => ⟨r, kvs, h1, h2, m _ _ h2 h3, h4, h5⟩) (b3 _ _ hP aPt) D.gt.nd (by omega) hG (fun x hx H4 e hk N NF n => ?_) (fun H4 f e4 hd4 hf => ?_)⟩
      · refine ⟨rfl, _, rfl, _, rfl, t, _, dx, _, _, rfl, e _ _ ht3, T.cl_Tree, T.na_near, (by kernel_rfl), _, rfl, D, nd, x, rfl, nN.mono e, hx, fun r kvs H5 e5 hr5 hr5' hq5 => ?_⟩
        obtain ⟨kk, hk⟩ := hk
        exact n _ _ e5 ⟨r, kvs, rfl, fun z => (by rw [z, hk] at hr5; cases hr5), hr5', hq5, e.free hr5⟩
      · obtain ⟨ga, hga⟩ : ∃ ga : Str → Addr, ∀ p ∈ D.ps, f p = .ref (ga p) ∧ H3 (ga p) = none ∧ ∃ kvs, H4 (ga p) = some (.dK kvs) ∧ ∀ q ∈ D.ps, valV kvs (.inr q) = some (.int (D.d p q)) :=
          ⟨fun p => refOf (f p), fun p hp => by
            obtain ⟨r, kvs, h1, h2, h3, h4, h5⟩ := hf p hp
            have er : refOf (f p) = r := by rw [h1]; rfl
            exact ⟨show f p = .ref (refOf (f p)) by rw [er]; exact h1, show H3 (refOf (f p)) = none by rw [er]; exact h5, kvs, show H4 (refOf (f p)) = _ by rw [er]; exact h3, h4⟩⟩
        have hG4 : H4 G = some (.dK (dkv D.ps fun p => .ref (ga p))) := by rw [hd4]; congr 2; exact dkv_congr fun p hp => (hga p hp).1
        have ht4 := e4 _ _ ht3
        have b4 : But t H H4 := fun b o h n => e4 _ _ (b3 _ _ h n)
        refine ⟨_, rfl, t, _, dx, _, rfl, ht4, T.cl_Tree, T.na_gaps, small_len (m := 3) (by kernel_rfl) (by decide), ?_⟩
        have fsE4 : putF "gaps" (V.ref G) ([("own_places", V.ref aP), ("own_edges", V.ref aE), ("near", V.ref nd)] : List (Str × V)) = treeFs aP aE nd G := by kernel_rfl
        rw [fsE4]
        have nt : ∀ {b : Addr} {o : HO}, H4 b = some o → (∀ C dx fs, o ≠ .ins C dx fs) → upd H4 t (.ins a.c_Tree dx (treeFs aP aE nd G)) b = some o := fun h no => by
          rw [upd_ne (fun z => by rw [z, ht4] at h; exact no _ _ _ (Option.some.inj h).symm)]; exact h
        have fr : ∀ {b : Addr}, H3 b = none → H b = none := fun {b} h => by
          cases z : H b with
          | none => rfl
          | some o =>
            have hbt : b ≠ t := fun y => by rw [y, ht3] at h; cases h
            rw [b3 _ _ z hbt] at h; cases h
        have nw : ∀ {b : Addr} {o : HO}, H4 b = some o → (∀ C dx fs, o ≠ .ins C dx fs) → (H b = none ∨ b = t ∨ b = aP) → Nw H t aP (upd H4 t (.ins a.c_Tree dx (treeFs aP aE nd G))) b = some o := fun h no hb => Nw.at (nt h no) hb
        refine qq _ (But.upd b4) ⟨dx, aP, aE, nd, G, na, ga, Nw.at upd_same (.inr (.inl rfl)), nw (b4 _ _ hP aPt) (fun _ _ _ z => by cases z) (.inr (.inr rfl)), nw (e4 _ _ hnd3) (fun _ _ _ z => by cases z) (.inl hndH), fun p hp => nw (e4 _ _ (hna3 p hp).2) (fun _ _ _ z => by cases z) (.inl (hna3 p hp).1), nw hG4 (fun _ _ _ z => by cases z) (.inl (fr hG)), fun p hp => ?_⟩
        obtain ⟨_, h5, kvs, h3, h4⟩ := hga p hp
        exact ⟨kvs, nw h3 (fun _ _ _ z => by cases z) (.inl (fr h5)), h4⟩
end
end Tw
/-! the law's box of draws; what stays through a draw -/
namespace Tw
open PySem PySem.Spec PyProof.Rows L2
def bxD (gr : Addr) (now seed turn : Int) : List (Key × V) := [(Sum.inr "great", .ref gr), (Sum.inr "now", .int now), (Sum.inr "seed", .int seed), (Sum.inr "turn", .int turn)]
structure BoxAt (H : Hp) (bx gr : Addr) : Prop where
  ex : ∃ (gl : List Int) (now seed turn : Int), H bx = some (.dK (bxD gr now seed turn)) ∧ H gr = some (.lst (gl.map V.int)) ∧ 0 ≤ now ∧ ∀ g ∈ gl, 0 ≤ g
/-- the heap without the box -/
def Off (bx gr : Addr) (H : Hp) : Hp := fun b => if b = bx ∨ b = gr then none else H b
/-- all but the box stays -/
def Sty (bx gr : Addr) (H H' : Hp) : Prop := Same (Off bx gr H) (Off bx gr H')
section
variable {bx gr : Addr} {H H' H'' : Hp}
theorem off_eq {b : Addr} (h1 : b ≠ bx) (h2 : b ≠ gr) : Off bx gr H b = H b := if_neg fun z => z.elim h1 h2
theorem off_some {b : Addr} {o : HO} (h : Off bx gr H b = some o) : b ≠ bx ∧ b ≠ gr ∧ H b = some o := by
  unfold Off at h
  by_cases z : b = bx ∨ b = gr
  · rw [if_pos z] at h; cases h
  · rw [if_neg z] at h; exact ⟨fun e => z (.inl e), fun e => z (.inr e), h⟩
theorem off_same : Same (Off bx gr H) H := fun _ _ h => (off_some h).2.2
theorem off_none {b : Addr} (h : H b = none) : Off bx gr H b = none := by
  unfold Off; split <;> first | rfl | exact h
theorem Sty.refl : Sty bx gr H H := fun _ _ h => h
theorem Sty.trans (a : Sty bx gr H H') (b : Sty bx gr H' H'') : Sty bx gr H H'' := Same.trans a b
theorem Sty.of (e : Same H H') : Sty bx gr H H' := fun b o h => by
  obtain ⟨h1, h2, h3⟩ := off_some h
  rw [off_eq h1 h2]; exact e _ _ h3
theorem BoxAt.mono (B : BoxAt H bx gr) (e : Same H H') : BoxAt H' bx gr := by
  obtain ⟨gl, now, seed, turn, h1, h2, h3⟩ := B.ex
  exact ⟨gl, now, seed, turn, e _ _ h1, e _ _ h2, h3⟩
theorem BoxAt.ne (B : BoxAt H bx gr) : bx ≠ gr := fun z => by
  obtain ⟨gl, now, seed, turn, h1, h2, h3⟩ := B.ex
  rw [z, h2] at h1; cases h1
theorem BoxAt.fresh (B : BoxAt H bx gr) {b : Addr} (h : H b = none) : b ≠ bx ∧ b ≠ gr := by
  obtain ⟨gl, now, seed, turn, h1, h2, h3⟩ := B.ex
  exact ⟨fun z => (by rw [z, h1] at h; cases h), fun z => (by rw [z, h2] at h; cases h)⟩
/-- a change at an address outside the box -/
theorem BoxAt.upd (B : BoxAt H bx gr) {b : Addr} {o : HO} (h : b ≠ bx ∧ b ≠ gr) : BoxAt (upd H b o) bx gr := by
  obtain ⟨gl, now, seed, turn, h1, h2, h3⟩ := B.ex
  exact ⟨gl, now, seed, turn, by rw [upd_ne (Ne.symm h.1)]; exact h1, by rw [upd_ne (Ne.symm h.2)]; exact h2, h3⟩
/-- seen from a heap that lacked it, a change at an address is none -/
theorem Sty.upd {b : Addr} {o : HO} (e : Sty bx gr H H') (h : H b = none) : Sty bx gr H (upd H' b o) := fun c u hc => by
  obtain ⟨h1, h2, h3⟩ := off_some hc
  rw [off_eq h1 h2, upd_ne (ne_of_none h3 h)]
  have := e _ _ hc
  rw [off_eq h1 h2] at this
  exact this
/-- what stands outside the box -/
theorem Sty.at {b : Addr} {o : HO} (e : Sty bx gr H H') (h : H b = some o) (hb : b ≠ bx ∧ b ≠ gr) : H' b = some o := by
  have := e b o (by rw [off_eq hb.1 hb.2]; exact h)
  exact (off_some this).2.2
theorem off_at {b : Addr} {o : HO} (h : H b = some o) (hb : b ≠ bx ∧ b ≠ gr) : Off bx gr H b = some o := by rw [off_eq hb.1 hb.2]; exact h
end
/-- one draw -/
def spTake : Sp := fun vs H Q _ => ∃ (bx gr : Addr) (m : Int), vs = [.ref bx, .int m] ∧ BoxAt H bx gr ∧ 0 < m ∧ m < 1073741824 ∧ ∀ r H', 0 ≤ r → r < m → BoxAt H' bx gr → Sty bx gr H H' → Q (.int r) H'
/-- [.. for ..] whose elements draw -/
theorem lc_drw {bx gr : Addr} {J : It} {n : Nat} {G : Hp → Prop} {Y : Nat → Hp → V → Hp → Prop} {g : TG} {te : TE} {vs : List Nat} {σ : L2.St} {H1 : Hp} {D : Addr} {Qd : Hp → Prop} (w : Walk J n G Y) (E : Nat → V → Hp → Prop) (hE : ∀ i v H H', Sty bx gr H H' → E i v H → E i v H')
    (hE2 : ∀ i v H (acc acc' : List V), H D = some (.lst acc) → E i v H → E i v (upd H D (.lst acc'))) (hG : ∀ H, Sty bx gr H1 H → G H) (hn : n ≤ 1000) (hB : BoxAt H1 bx gr) (hD : H1 D = none)
    (hs : ∀ i v H H', i < n → BoxAt H bx gr → Sty bx gr H1 H → (∃ acc, H D = some (.lst acc)) → Y i H v H' → ∀ N : V → Hp → Prop, (∀ y H'', BoxAt H'' bx gr → Sty bx gr H H'' → E i y H'' → N y H'') → g v (wipe σ vs) H' fun σ2 H2 => wipe σ2 vs = wipe σ vs ∧ te σ2 H2 N)
    (hd : ∀ ys H, BoxAt H bx gr → Sty bx gr H1 H → ys.length = n → (∀ i v, ys[i]? = some v → E i v H) → H D = some (.lst ys) → Qd H) :
    ∃ W : Nat → Nat → Hp → Prop, (∃ m, W 0 m (upd H1 D (.lst []))) ∧ ∀ i' m H, W i' m H →
      (J.stop i' H ∧ Qd H) ∨ (J.go i' H ∧ ∃ Nx : Hp → Prop, (∀ H', Nx H' → ∃ m', m' < m ∧ W (i' + 1) m' H') ∧ ∀ x H', J.yld i' H x H' → g x (wipe σ vs) H' fun σ2 H2 => wipe σ2 vs = wipe σ vs ∧ tYes σ2 H2 fun b H3 =>
        if b = true then te σ2 H3 fun y H4 => ∃ acc, H4 D = some (.lst acc) ∧ acc.length < sizeLine ∧ Nx (upd H4 D (.lst (acc ++ [y]))) else Nx H3) := by
  have hDb := hB.fresh hD
  have base : Sty bx gr H1 (upd H1 D (.lst [])) := Sty.upd Sty.refl hD
  refine lc_it w (fun k H => BoxAt H bx gr ∧ Sty bx gr H1 H ∧ ∃ ys, ys.length = k ∧ (∀ i v, ys[i]? = some v → E i v H) ∧ H D = some (.lst ys)) ⟨hB.upd hDb, base, [], rfl, fun i v h => by simp at h, upd_same⟩ (fun k H _ e => hG _ e.2.1) (fun k v H H' hk e y => ?_) (fun H e => ?_)
  · obtain ⟨b, s, ys, hl, hys, hDy⟩ := e
    have st := hs k v H H' hk b s ⟨ys, hDy⟩ y (fun y H4 => ∃ acc, H4 D = some (.lst acc) ∧ acc.length < sizeLine ∧ (BoxAt (upd H4 D (.lst (acc ++ [y]))) bx gr ∧ Sty bx gr H1 (upd H4 D (.lst (acc ++ [y]))) ∧ ∃ ys, ys.length = k + 1 ∧ (∀ i v, ys[i]? = some v → E i v (upd H4 D (.lst (acc ++ [y])))) ∧ (upd H4 D (.lst (acc ++ [y]))) D = some (.lst ys))) fun y H4 b4 s4 e4 => ?_
    · exact st
    · have h4 := s4.at hDy hDb
      refine ⟨ys, h4, sz_small (by omega), b4.upd hDb, (s.trans s4).upd hD, ys ++ [y], by rw [List.length_append, hl]; rfl, fun i v hv => ?_, upd_same⟩
      rcases Nat.lt_or_ge i ys.length with z | z
      · rw [List.getElem?_append_left z] at hv
        exact hE2 _ _ _ _ _ h4 (hE _ _ _ _ s4 (hys i v hv))
      · rw [List.getElem?_append_right z] at hv
        have : i - ys.length = 0 := by
          rcases Nat.eq_zero_or_pos (i - ys.length) with q | q
          · exact q
          · rw [List.getElem?_eq_none (by show 1 ≤ _; omega)] at hv; cases hv
        rw [this] at hv
        obtain rfl := Option.some.inj hv
        have : i = k := by omega
        rw [this]
        exact hE2 _ _ _ _ _ h4 e4
  · obtain ⟨b, s, ys, hl, hys, hDy⟩ := e
    exact hd ys H b s hl hys hDy
end Tw
namespace Tw
open PySem PySem.Spec PyProof.Rows L2
theorem bx_great {gr : Addr} {n s t : Int} : valV (bxD gr n s t) (.inr "great") = some (.ref gr) := by kernel_rfl
theorem bx_now {gr : Addr} {n s t : Int} : valV (bxD gr n s t) (.inr "now") = some (.int n) := by kernel_rfl
theorem bx_seed {gr : Addr} {n s t : Int} : valV (bxD gr n s t) (.inr "seed") = some (.int s) := by kernel_rfl
theorem bx_turn {gr : Addr} {n s t : Int} : valV (bxD gr n s t) (.inr "turn") = some (.int t) := by kernel_rfl
theorem bx_pnow {gr : Addr} {n s t m : Int} : putK (bxD gr n s t) (Sum.inr "now") (.int m) = bxD gr m s t := by kernel_rfl
theorem bx_pseed {gr : Addr} {n s t m : Int} : putK (bxD gr n s t) (Sum.inr "seed") (.int m) = bxD gr n m t := by kernel_rfl
theorem bx_pturn {gr : Addr} {n s t m : Int} : putK (bxD gr n s t) (Sum.inr "turn") (.int m) = bxD gr n s m := by kernel_rfl
theorem bx_put {H : Hp} {bx gr : Addr} {n s t : Int} {k : Str} {v : V} (h : H bx = some (.dK (bxD gr n s t))) : DPut H bx (.str k) v (upd H bx (.dK (putK (bxD gr n s t) (Sum.inr k) v))) := DPut.k (k := Sum.inr k) h (by show 4 < sizeLine; decide)
theorem cut_seq {t u : TS} {D : Ends} {σ : L2.St} {H : Hp} (Pv : L2.St → Hp → Prop) (hu : ∀ σ' H', Pv σ' H' → u D σ' H') (h1 : ∀ N : L2.St → Hp → Prop, (∀ σ' H', Pv σ' H' → N σ' H') → t { D with nx := N } σ H) : tSeq t u D σ H := h1 _ hu
theorem sty_bx {H H' : Hp} {bx gr : Addr} (h : ∀ b, b ≠ bx → b ≠ gr → H' b = H b) : Sty bx gr H H' := fun b o e => by
  obtain ⟨h1, h2, h3⟩ := off_some e
  rw [off_eq h1 h2, h b h1 h2]; exact h3
section
variable {P : Program} {w : World} {K : PySem.W.Frag} {mg : Str → Option Value} {base : Heap} {a : Ads}
theorem ok__law_take (T : Txt P K mg a) : FnR P w K mg base CX0 1 a.f__law_take spTake := by
  obtain ⟨fd, F⟩ := T.F__law_take
  refine okR F sc__law_take (fun vs H Q E h => ?_) (fun _ _ _ _ _ _ us hl => match us, hl with | [_, _], _ => rfl) (fun cdv A outer s0 H vs Q E hr h => ?_)
  · obtain ⟨bx, gr, m, rfl, _⟩ := h
    rfl
  · obtain ⟨bx, gr, m, rfl, B, hm, hm2, q⟩ := h
    have hu := hu_of hr
    have hne := B.ne
    obtain ⟨gl, now, seed, turn, h1, h2, hnow, hgl⟩ := B.ex
    refine ⟨_, (pss_cons (ps_if (PW.pt (pw_and (pt_cmpR op_eq (pe_dget hu (pv 0) pe_str (fun _ _ => rfl)) pe_int (nomark _)) (pw_and1 (pt_cmpR op_gt (pe_callB call_len_seq (by rfl) T.n_len PySem.boot_len (pa_cons (pe_dget hu (pv 0) pe_str (fun _ _ => rfl)) pa_nil)) pe_int (nomark _))))) (pss_one (ps_dput hu (pv 0) pe_str (pe_bm0 PySem.F.plainAttrs_list PySem.F.slot_list_pop PySem.F.type_list_pop mt_pop (pe_dget hu (pv 0) pe_str (fun _ _ => rfl))) rfl)) pss_nil)
  (pss_cons (ps_if (pt_cmpR op_gt (pe_dget hu (pv 0) pe_str (fun _ _ => rfl)) pe_int (nomark _)) (pss_cons (ps_set (i := 2) sc__law_take.nd rfl (Or.inl rfl) (pe_op op_mod (pe_dget hu (pv 0) pe_str (fun _ _ => rfl)) (pv 1)))
  (pss_cons (ps_dput hu (pv 0) pe_str (pe_op op_fdiv (pe_dget hu (pv 0) pe_str (fun _ _ => rfl)) (pv 1)) rfl)
  (pss_one (ps_ret (pv 2))))) pss_nil)
  (pss_cons (ps_dput hu (pv 0) pe_str (pe_op op_add (pe_dget hu (pv 0) pe_str (fun _ _ => rfl)) pe_int) rfl)
  (pss_cons (ps_set (i := 3) sc__law_take.nd rfl (Or.inl rfl) (pe_op op_mod (pe_op op_mul (pe_op op_mod (pe_op op_add (pe_dget hu (pv 0) pe_str (fun _ _ => rfl)) (pe_op op_mul pe_int (pe_dget hu (pv 0) pe_str (fun _ _ => rfl)))) pe_int) pe_int) pe_int))
  (pss_cons (ps_dput hu (pv 0) pe_str (pe_op op_add (pe_op op_mod (pe_op op_add (pv 3) (pe_op op_mul pe_int (pe_dget hu (pv 0) pe_str (fun _ _ => rfl)))) pe_int) pe_int) rfl)
  (pss_one (ps_ret (pe_op op_mod (pe_op op_fdiv (pe_op op_add (pe_op op_mul (pv 3) pe_int) (pe_dget hu (pv 0) pe_str (fun _ _ => rfl))) pe_int) (pv 1))))))))), ?_⟩
    refine cut_seq (fun σ H1 => σ = [some (.ref bx), some (.int m), none, none] ∧ ∃ (gl : List Int) (now : Int), (∀ b, b ≠ bx → b ≠ gr → H1 b = H b) ∧ H1 bx = some (.dK (bxD gr now seed turn)) ∧ H1 gr = some (.lst (gl.map V.int)) ∧ 0 ≤ now ∧ ∀ g ∈ gl, 0 ≤ g) ?_ (fun N hN => ?_)
    · rintro σ H1 ⟨rfl, gl, now, hoff, h1, h2, hnow, hgl⟩
      refine ⟨_, rfl, bx, _, rfl, dget h1 bx_now, _, _, rfl, rfl, _, rfl, ?_⟩
      refine ite2 (fun hc => ?_) (fun hc => ?_)
      · have hpos : 0 < now := of_decide_eq_true hc
        refine ⟨_, rfl, bx, _, rfl, dget h1 bx_now, _, rfl, _, _, rfl, rfl, hm, ?_⟩
        refine ⟨_, rfl, bx, _, rfl, dget h1 bx_now, _, rfl, _, _, rfl, rfl, ⟨hm, hm2⟩, _, rfl, bx, _, rfl, bx_put h1, ?_⟩
        rw [bx_pnow]
        refine ⟨_, rfl, q _ _ (Int.emod_nonneg _ (by omega)) (Int.emod_lt_of_pos _ hm) ⟨gl, now / m, seed, turn, upd_same, by rw [upd_ne (Ne.symm hne)]; exact h2, Int.ediv_nonneg hnow (by omega), hgl⟩ (sty_bx fun b b1 b2 => by rw [upd_ne b1]; exact hoff b b1 b2)⟩
      · refine ⟨_, rfl, bx, _, rfl, dget h1 bx_turn, _, _, rfl, rfl, _, rfl, bx, _, rfl, bx_put h1, ?_⟩
        rw [bx_pturn]
        have h1' : upd H1 bx (HO.dK (bxD gr now seed (turn + 1))) bx = some (.dK (bxD gr now seed (turn + 1))) := upd_same
        have hoff' : ∀ b, b ≠ bx → b ≠ gr → upd H1 bx (HO.dK (bxD gr now seed (turn + 1))) b = H b := fun b b1 b2 => by rw [upd_ne b1]; exact hoff b b1 b2
        have h2' : upd H1 bx (HO.dK (bxD gr now seed (turn + 1))) gr = some (.lst (gl.map V.int)) := by rw [upd_ne (Ne.symm hne)]; exact h2
        generalize upd H1 bx (HO.dK (bxD gr now seed (turn + 1))) = H2 at h1' hoff' h2' ⊢
        refine ⟨_, rfl, bx, _, rfl, dget h1' bx_seed, _, rfl, bx, _, rfl, dget h1' bx_turn, _, _, rfl, rfl, .inl ⟨by decide, by decide⟩, _, _, rfl, rfl, _, _, rfl, rfl, (show (0 : Int) < 2147483647 by decide), _, _, rfl, rfl, .inr ⟨by decide, by decide⟩, _, _, rfl, rfl, (show (0 : Int) < 2147483647 by decide), ?_⟩
        refine ⟨_, rfl, _, rfl, bx, _, rfl, dget h1' bx_seed, _, _, rfl, rfl, .inl ⟨by decide, by decide⟩, _, _, rfl, rfl, _, _, rfl, rfl, (show (0 : Int) < 2147483629 by decide), _, _, rfl, rfl, _, rfl, bx, _, rfl, bx_put h1', ?_⟩
        rw [bx_pseed]
        refine ⟨_, rfl, _, _, rfl, rfl, .inr ⟨by decide, by decide⟩, _, rfl, bx, _, rfl, dget upd_same bx_seed, _, _, rfl, rfl, _, _, rfl, rfl, ⟨by decide, by decide⟩, _, rfl, _, _, rfl, rfl, hm, ?_⟩
        exact q _ _ (Int.emod_nonneg _ (by omega)) (Int.emod_lt_of_pos _ hm) ⟨gl, now, _, turn + 1, upd_same, by rw [upd_ne (Ne.symm hne)]; exact h2', hnow, hgl⟩ (sty_bx fun b b1 b2 => by rw [upd_ne b1]; exact hoff' b b1 b2)
    · refine ⟨_, rfl, bx, _, rfl, dget h1 bx_now, rfl, _, rfl, ?_⟩
      refine ite2 (fun hc => ?_) (fun hc => ?_)
      · have h0 : now = 0 := V.int.inj (of_decide_eq_true hc)
        refine ⟨_, rfl, bx, _, rfl, dget h1 bx_great, gr, _, rfl, .inl (SqL.of h2), _, _, rfl, rfl, _, rfl, ?_⟩
        refine ite2 (fun hc => ?_) (fun hc => ?_)
        · have hl : 0 < (gl.map V.int).length := by have := of_decide_eq_true hc; omega
          rw [List.length_map] at hl
          obtain ⟨y, hy⟩ : ∃ y, gl[gl.length - 1]? = some y := ⟨_, List.getElem?_eq_getElem (by omega)⟩
          refine ⟨_, rfl, bx, _, rfl, dget h1 bx_great, .inl ⟨rfl, _, SqL.of h2⟩, gr, _, .int y, rfl, rfl, h2, by rw [List.length_map, List.getElem?_map, hy]; rfl, _, rfl, bx, _, rfl, bx_put (n := now) (s := seed) (t := turn) (gr := gr) (by rw [upd_ne hne]; exact h1), ?_⟩
          rw [bx_pnow]
          exact hN _ _ ⟨rfl, gl.dropLast, y, fun b b1 b2 => by rw [upd_ne b1, upd_ne b2], upd_same, by rw [upd_ne (Ne.symm hne), upd_same, List.map_dropLast], hgl y (List.mem_of_getElem? hy), fun g hg => hgl g (List.dropLast_subset _ hg)⟩
        · exact hN _ _ ⟨rfl, gl, now, fun b _ _ => rfl, h1, h2, hnow, hgl⟩
      · exact hN _ _ ⟨rfl, gl, now, fun b _ _ => rfl, h1, h2, hnow, hgl⟩
def spMixed : Sp := fun vs H Q _ => ∃ (bx gr l : Addr) (xs : List V), vs = [.ref bx, .ref l] ∧ BoxAt H bx gr ∧ (l ≠ bx ∧ l ≠ gr) ∧ (H l = some (.lst xs) ∨ H l = some (.tup xs)) ∧ xs.length ≤ 1000 ∧ ∀ r H' ys, BoxAt H' bx gr → Sty bx gr H H' → H r = none → H' r = some (.lst ys) → xs.Perm ys → Q (.ref r) H'
theorem perm_pop {α : Type} : ∀ {xs : List α} {k : Nat} {y : α}, xs[k]? = some y → xs.Perm (y :: xs.eraseIdx k)
  | [], _, _, h => by simp at h
  | x :: xs, 0, y, h => by
    obtain rfl := Option.some.inj h
    exact List.Perm.refl _
  | x :: xs, k + 1, y, h => by
    have h' : xs[k]? = some y := h
    exact ((perm_pop h').cons x).trans (List.Perm.swap y x _)
theorem ok__law_mixed (T : Txt P K mg a) : FnR P w K mg base CX0 2 a.f__law_mixed spMixed := by
  obtain ⟨fd, F⟩ := T.F__law_mixed
  have ok__law_take := ok__law_take (P := P) (w := w) (base := base) T
  refine okR F sc__law_mixed (fun vs H Q E h => ?_) (fun _ _ _ _ _ _ us hl => match us, hl with | [_, _], _ => rfl) (fun cdv A outer s0 H vs Q E hr h => ?_)
  · obtain ⟨bx, gr, l, xs, rfl, _⟩ := h
    rfl
  · obtain ⟨bx, gr, l, xs, rfl, B, hlb, hl, hn, q⟩ := h
    have hu := hu_of hr
    refine ⟨_, (pss_cons (ps_par (i := 2) (j := 3) rfl sc__law_mixed.nd rfl rfl (by decide) rfl rfl (pa_cons (pe_callTy call_list_of (by rfl) T.n_list (by decide +kernel) (pa_cons (pv 1) pa_nil)) (pa_cons (pe_lst pa_nil) pa_nil)) (by rfl))
  (pss_cons (ps_for PassesOwn.never rfl (pi_range1 rfl T.n_range (pa_cons (pe_callB call_len_seq (by rfl) T.n_len PySem.boot_len (pa_cons (pv 2) pa_nil)) pa_nil)) (pg_name (i := 4) sc__law_mixed.nd rfl (Or.inl rfl))
    (pss_one (ps_expr (pe_bm PySem.F.plainAttrs_list PySem.F.slot_list_append PySem.F.type_list_append mt_append (pv 3) (pa_cons (pe_bm PySem.F.plainAttrs_list PySem.F.slot_list_pop PySem.F.type_list_pop mt_popAt (pv 2) (pa_cons (cR T.g__law_take ok__law_take (hr.mono (by decide)) (by rfl) (pa_cons (pv 0) (pa_cons (pe_callB call_len_seq (by rfl) T.n_len PySem.boot_len (pa_cons (pv 2) pa_nil)) pa_nil))) pa_nil)) pa_nil)))))
  (pss_one (ps_ret (pv 3))))), ?_⟩
    refine ⟨_, rfl, l, xs, rfl, hl.elim (fun h => .inl (SqL.of h)) (fun h => .inr (SqT.of h)), fun L hL => ⟨by show 0 ≤ sizeLine; decide, fun Fd hF => ⟨_, _, rfl, ?_⟩⟩⟩
    have hLb := B.fresh hL
    have hFH : H Fd = none := (same_upd hL).free hF
    have hFb := B.fresh hFH
    have hLF : L ≠ Fd := fun z => by rw [← z, upd_same] at hF; cases hF
    have s1 : Sty bx gr H (upd (upd H L (.lst xs)) Fd (.lst [])) := Sty.of (Same.upd' (same_upd hL) hF)
    have B1 : BoxAt (upd (upd H L (.lst xs)) Fd (.lst [])) bx gr := (B.upd hLb).upd hFb
    refine ⟨_, rfl, L, xs, rfl, .inl (SqL.of (by rw [upd_ne hLF]; exact upd_same)), (xs.length : Int), rfl, by omega, by omega, ?_⟩
    rw [Int.toNat_natCast]
    refine for_range (fun i σ H' => BoxAt H' bx gr ∧ Sty bx gr H H' ∧ ∃ (xs' ys' : List V) (u : Option V), H' L = some (.lst xs') ∧ H' Fd = some (.lst ys') ∧ xs.Perm (ys' ++ xs') ∧ xs'.length + i = xs.length ∧ σ = [some (.ref bx), some (.ref l), some (.ref L), some (.ref Fd), u])
      ⟨B1, s1, xs, [], none, by rw [upd_ne hLF]; exact upd_same, upd_same, List.Perm.refl _, rfl, rfl⟩ ?_ ?_
    · rintro i σ H2 hi ⟨B2, s2, xs', ys', u, hL2, hF2, hp, hlen, rfl⟩
      have hyl : ys'.length ≤ 1000 := by
        have := hp.length_eq
        rw [List.length_append] at this
        omega
      refine ⟨_, rfl, .inl ⟨rfl, _, SqL.of hF2⟩, _, rfl, .inl ⟨rfl, _, SqL.of hL2⟩, _, rfl, _, rfl, L, xs', rfl, .inl (SqL.of hL2), bx, gr, _, rfl, B2, by omega, by omega, fun r H3 r0 r1 B3 s3 => ?_⟩
      have hL3 := s3.at hL2 hLb
      have hF3 := s3.at hF2 hFb
      obtain ⟨k, rfl⟩ : ∃ k : Nat, r = k := ⟨r.toNat, by omega⟩
      have hk : k < xs'.length := by omega
      obtain ⟨y, hy⟩ : ∃ y, xs'[k]? = some y := ⟨_, List.getElem?_eq_getElem hk⟩
      have hsi : seqIndex? (k : Int) xs'.length = some k := by
        have hk0 : ¬ (k : Int) < 0 := by omega
        have hk1 : (k : Int) < (xs'.length : Int) := by omega
        have hk2 : (0 : Int) ≤ (k : Int) := by omega
        simp [seqIndex?, hk0, hk1, hk2]
      refine ⟨L, xs', (k : Int), k, y, rfl, rfl, hL3, by omega, by omega, hsi, hy, Fd, ys', y, rfl, rfl, by rw [upd_ne (Ne.symm hLF)]; exact hF3, sz_small hyl, ?_⟩
      refine ⟨(B3.upd hLb).upd hFb, ((s2.trans s3).upd hL).upd hFH, xs'.eraseIdx k, ys' ++ [y], _, by rw [upd_ne hLF]; exact upd_same, upd_same, ?_, ?_, rfl⟩
      · refine hp.trans ?_
        rw [List.append_assoc]
        exact (perm_pop hy).append_left _
      · rw [List.length_eraseIdx_of_lt hk]; omega
    · rintro σ H2 ⟨B2, s2, xs', ys', u, hL2, hF2, hp, hlen, rfl⟩
      have : xs' = [] := List.eq_nil_of_length_eq_zero (by omega)
      rw [this, List.append_nil] at hp
      exact ⟨_, rfl, q Fd H2 ys' B2 s2 hFH hF2 hp⟩
def spBox (K : PySem.W.Frag) : Sp := fun vs H Q _ => ∃ (s : Addr) (xs : List Int), vs = [.ref s, .int 0] ∧ SqL K H s (xs.map V.int) ∧ xs.length ≤ 1000 ∧ ∀ bx gr H', BoxAt H' bx gr → Same H H' → H bx = none → H gr = none → Q (.ref bx) H'
end
end Tw
namespace Tw
open PySem PySem.Spec PyProof.Rows L2
theorem cut_map {xs : List Int} {lo hi : Option Int} : ∃ zs : List Int, cutV (xs.map V.int) lo hi = zs.map V.int ∧ zs.length ≤ xs.length := by
  unfold cutV
  refine ⟨_, by rw [← List.map_drop, ← List.map_take], ?_⟩
  rw [List.length_take, List.length_drop]
  omega
theorem bx_merge {gr : Addr} {n s t : Int} : mergeK ([] : List (Key × V)) (bxD gr n s t) = bxD gr n s t := by kernel_rfl
def absI (i : Int) : Int := if i < 0 then -i else i
theorem absI_nn (i : Int) : 0 ≤ absI i := by unfold absI; split <;> omega
section
variable {P : Program} {w : World} {K : PySem.W.Frag} {mg : Str → Option Value} {base : Heap} {a : Ads}
theorem ok__law_box (T : Txt P K mg a) : FnR P w K mg base CX0 1 a.f__law_box (spBox K) := by
  obtain ⟨fd, F⟩ := T.F__law_box
  refine okR F sc__law_box (fun vs H Q E h => ?_) (fun _ _ _ _ _ _ us hl => match us, hl with | [_, _], _ => rfl) (fun cdv A outer s0 H vs Q E hr h => ?_)
  · obtain ⟨s, xs, rfl, _⟩ := h
    rfl
  · obtain ⟨s, xs, rfl, hs, hn, q⟩ := h
    have hu := hu_of hr
    refine ⟨_, (pss_cons (ps_set (i := 2) sc__law_box.nd rfl (Or.inl rfl) (pe_op op_add pe_int (pe_op op_mul pe_int (pv 1))))
  (pss_cons (ps_for PassesOwn.never rfl (pi_list (pe_slice sl_list (pv 0) po_none (po_some pe_int))) (pg_name (i := 3) sc__law_box.nd rfl (Or.inl rfl))
    (pss_one (ps_set (i := 2) sc__law_box.nd rfl (Or.inl rfl) (pe_op op_mod (pe_op op_add (pe_op op_add (pe_op op_mul (pv 2) pe_int) (pe_op op_mod (pe_callB call_abs (by rfl) T.n_abs (by decide +kernel) (pa_cons (pv 3) pa_nil)) pe_int)) pe_int) pe_int))))
  (pss_cons (ps_setLc (i := 4) (own := [("_law_cell", 3)]) rfl sc__law_box.nd rfl rfl (sw_true rfl rfl rfl (by decide +kernel)) (pi_list (pe_slice sl_list (pv 0) (po_some (pv 1)) (po_some pe_int))) (blkOk_by (own := [("_law_cell", 3)]) (N := N__law_box) (sc := (defScope s__law_box)) (by decide +kernel)) (fun _ _ _ _ _ => (pg_name (i := 3) sc__law_box.nd rfl (Or.inl rfl))) (fun _ _ _ _ _ => (pts_one (pt_cmpR op_ge (pe_callB call_abs (by rfl) T.n_abs (by decide +kernel) (pa_cons (pv 3) pa_nil)) (pe_op op_pow pe_int pe_int) (nomark _)))) (fun _ _ _ _ _ => (pe_callB call_abs (by rfl) T.n_abs (by decide +kernel) (pa_cons (pv 3) pa_nil))))
  (pss_one (ps_ret (pe_disp (pps_cons pe_str (pe_revL (pv 4)) (pps_cons pe_str pe_int (pps_cons pe_str (pe_op op_add (pv 2) pe_int) (pps_cons pe_str pe_int pps_nil)))) (by rfl) (by rfl) (fun z => by cases z) (by decide))))))), ?_⟩
    refine ⟨_, rfl, _, _, rfl, rfl, .inl ⟨by decide, by decide⟩, _, _, rfl, rfl, ?_⟩
    refine ⟨_, rfl, _, rfl, s, _, rfl, hs, fun p hp => ⟨p, rfl, ⟨_, SqL.of upd_same⟩, ?_⟩⟩
    obtain ⟨zs, ez, lz⟩ := cut_map (xs := xs) (lo := none) (hi := some 50)
    have e1 := same_upd (o := HO.lst (zs.map V.int)) hp
    rw [ez]
    have hp1 : upd H p (HO.lst (zs.map V.int)) p = some (.lst (zs.map V.int)) := upd_same
    generalize upd H p (HO.lst (zs.map V.int)) = H1 at e1 hp1 ⊢
    refine for_list (K := K) (a := p) (xs := zs.map V.int) (fun i σ H' => H' = H1 ∧ ∃ (sd : Int) (u : Option V), 0 ≤ sd ∧ sd < 4294967296 ∧ σ = [some (.ref s), some (.int 0), some (.int sd), u, none]) ⟨rfl, _, none, by decide, by decide, rfl⟩ (fun i σ H' _ e => by rw [e.1]; exact SqL.of hp1) ?_ ?_
    · rintro i v σ H2 hi ⟨rfl, sd, u, s1, s2, rfl⟩
      rw [List.getElem?_map] at hi
      obtain ⟨z, hz, rfl⟩ := Option.map_eq_some_iff.mp hi
      refine ⟨_, rfl, _, _, rfl, rfl, .inr ⟨by decide, by decide⟩, _, rfl, z, rfl, _, _, rfl, rfl, (show (0 : Int) < 2147483629 by decide), _, _, rfl, rfl, _, _, rfl, rfl, _, _, rfl, rfl, (show (0 : Int) < 2147483647 by decide), ?_⟩
      refine ⟨rfl, _, _, Int.emod_nonneg _ (by decide), Int.lt_trans (Int.emod_lt_of_pos _ (by decide)) (by decide), rfl⟩
    · rintro σ H2 ⟨rfl, sd, u, s1, s2, rfl⟩
      refine ⟨_, rfl, _, rfl, _, rfl, _, rfl, s, _, rfl, (L2.SqL.ext hs e1), fun p2 hp2 => ⟨p2, rfl, ⟨_, SqL.of upd_same⟩, ?_⟩⟩
      obtain ⟨ys, ey, ly⟩ := cut_map (xs := xs) (lo := some 0) (hi := some 50)
      rw [ey]
      have e2 := e1.trans (same_upd (o := HO.lst (ys.map V.int)) hp2)
      have hp3 : upd H2 p2 (HO.lst (ys.map V.int)) p2 = some (.lst (ys.map V.int)) := upd_same
      generalize upd H2 p2 (HO.lst (ys.map V.int)) = H3 at e2 hp3 ⊢
      refine fun B hB => lc_sel (l := ys) (mk := V.int) (fun i => decide ((10 : Int) ^ (18 : Int).toNat ≤ absI i)) (fun i => .int (absI i)) walk_list (fun H' e => SqL.of (e _ _ hp3)) (by omega) hB (fun x hx H4 e N1 N2 n => ?_) (fun H4 e4 h4 => ?_)
      · refine ⟨rfl, _, rfl, x, rfl, _, _, rfl, rfl, ⟨by decide, by decide, by decide⟩, _, _, rfl, rfl, _, rfl, ?_⟩
        refine ite2 (fun hc => ?_) (fun hc => ?_)
        · exact ⟨_, rfl, x, rfl, (n H4 (fun _ _ z => z)).2 hc⟩
        · exact (n H4 (fun _ _ z => z)).1 (Bool.eq_false_iff.mpr hc)
      · obtain ⟨gl, h4', hgl⟩ : ∃ gl : List Int, H4 B = some (.lst (gl.map V.int)) ∧ ∀ g ∈ gl, 0 ≤ g := ⟨(ys.filter fun i => decide ((10 : Int) ^ (18 : Int).toNat ≤ absI i)).map absI, by rw [h4, List.map_map]; rfl, fun g hg => by
          obtain ⟨z, _, rfl⟩ := List.mem_map.mp hg
          exact absI_nn z⟩
        refine fun bx hbx => ⟨_, rfl, B, _, rfl, SqL.of (by rw [upd_ne (ne_of_none h4' hbx)]; exact h4'), fun gr hgr => ?_⟩
        refine ⟨_, rfl, _, _, rfl, rfl, ?_, bxD gr 0 (sd + 1) 0, rfl, by show 4 ≤ 15; decide, ?_⟩
        · have : bx ≠ gr := fun z => by rw [← z, upd_same] at hgr; cases hgr
          rw [upd_ne this]; exact upd_same
        · rw [bx_merge]
          have hbg : bx ≠ gr := fun z => by rw [← z, upd_same] at hgr; cases hgr
          have e5 := e2.trans e4
          have hgr4 : H4 gr = none := by rw [upd_ne (Ne.symm hbg)] at hgr; exact hgr
          refine q bx gr _ ⟨gl.reverse, 0, sd + 1, 0, upd_same, ?_, by decide, fun g hg => hgl g (List.mem_reverse.mp hg)⟩ (fun b o h => ?_) (e5.free hbx) (e5.free hgr4)
          · rw [upd_ne (Ne.symm hbg), upd_same, ← List.map_reverse]
          · have h5 := e5 _ _ h
            rw [upd_ne (ne_of_none h5 hbx), upd_ne (ne_of_none h5 hgr4), upd_ne (ne_of_none h5 hbx)]
            exact h5
end
end Tw
namespace Tw
open PySem PySem.Spec PyProof.Rows L2
/-- the law's own neighbours: a dict of lists -/
def NearL (D : TD) (H : Hp) (r : Addr) : Prop := ∃ na : Str → Addr, H r = some (.dK (dkv D.ps fun p => .ref (na p))) ∧ ∀ p ∈ D.ps, H (na p) = some (.lst (tv (nearL D p)))
theorem NearL.mono {D : TD} {H H' : Hp} {r : Addr} (h : NearL D H r) (e : Same H H') : NearL D H' r := by
  obtain ⟨na, h1, h2⟩ := h
  exact ⟨na, e _ _ h1, fun p hp => e _ _ (h2 p hp)⟩
/-- .. new all of it -/
def NearF (D : TD) (H H' : Hp) (r : Addr) : Prop := ∃ na : Str → Addr, H' r = some (.dK (dkv D.ps fun p => .ref (na p))) ∧ ∀ p ∈ D.ps, H (na p) = none ∧ H' (na p) = some (.lst (tv (nearL D p)))
theorem NearF.near {D : TD} {H H' : Hp} {r : Addr} (h : NearF D H H' r) : NearL D H' r := by
  obtain ⟨na, h1, h2⟩ := h
  exact ⟨na, h1, fun p hp => (h2 p hp).2⟩
theorem NearF.off {D : TD} {H H' : Hp} {r bx gr : Addr} (h : NearF D H H' r) (hr : H r = none) (B : BoxAt H bx gr) : NearL D (Off bx gr H') r := by
  obtain ⟨na, h1, h2⟩ := h
  exact ⟨na, off_at h1 (B.fresh hr), fun p hp => off_at (h2 p hp).2 (B.fresh (h2 p hp).1)⟩
def spNear : Sp := fun vs H Q _ => ∃ (D : TD) (aP aE : Addr), vs = [.ref aP, .ref aE] ∧ H aP = some (.tup (tv D.ps)) ∧ PairsAt H aE D.es ∧ ∀ r H', Same H H' → H r = none → NearF D H H' r → Q (.ref r) H'
def spLGaps : Sp := fun vs H Q _ => ∃ (D : TD) (r : Addr) (s : Str), vs = [.ref r, .str s] ∧ NearL D H r ∧ s ∈ D.ps ∧ ∀ v H', Same H H' → H v = none → Q (.ref v) H'
def spSize : Sp := fun vs H Q _ => ∃ (bx gr : Addr), vs = [.ref bx] ∧ BoxAt H bx gr ∧ ∀ (n : Int) H', (n = 12 ∨ n = 5 ∨ n = 40) → BoxAt H' bx gr → Sty bx gr H H' → Q (.int n) H'
/-- a list of groves -/
def GrovesAt (a : Ads) (D : TD) (H : Hp) (t l : Addr) (gs : List (Addr × List Str)) : Prop := H l = some (.lst (gs.map fun p => .ref p.1)) ∧ ∀ p ∈ gs, GroveAt a H t p.1 p.2 ∧ GrD D p.2
theorem GrovesAt.mono {a : Ads} {D : TD} {H H' : Hp} {t l : Addr} {gs : List (Addr × List Str)} (h : GrovesAt a D H t l gs) (e : Same H H') : GrovesAt a D H' t l gs := ⟨e _ _ h.1, fun p hp => ⟨(h.2 p hp).1.mono e, (h.2 p hp).2⟩⟩
def spComposed (a : Ads) : Sp := fun vs H Q _ => ∃ (D : TD) (t l : Addr) (gs : List (Addr × List Str)), vs = [.ref l] ∧ TreeAt a D H t ∧ GrovesAt a D H t l gs ∧ gs ≠ [] ∧ gs.length ≤ 1000 ∧ ∀ g H', Same H H' → GroveAt a H' t g (TwM.comp1 D.d (gs.map Prod.snd)) → Q (.ref g) H'
def spBracketed (a : Ads) : Sp := fun vs H Q _ => ∃ (D : TD) (bx gr t l : Addr) (gs : List (Addr × List Str)), vs = [.ref bx, .ref l] ∧ BoxAt H bx gr ∧ TreeAt a D (Off bx gr H) t ∧ GrovesAt a D (Off bx gr H) t l gs ∧ gs ≠ [] ∧ gs.length ≤ 1000 ∧
  ∀ g H', BoxAt H' bx gr → Sty bx gr H H' → GroveAt a (Off bx gr H') t g (TwM.comp1 D.d (gs.map Prod.snd)) → Q (.ref g) H'
section
variable {P : Program} {w : World} {K : PySem.W.Frag} {mg : Str → Option Value} {base : Heap} {a : Ads}
theorem ok__law_size (T : Txt P K mg a) : FnR P w K mg base CX0 2 a.f__law_size spSize := by
  obtain ⟨fd, F⟩ := T.F__law_size
  have ok__law_take := ok__law_take (P := P) (w := w) (base := base) T
  refine okR F sc__law_size (fun vs H Q E h => ?_) (fun _ _ _ _ _ _ us hl => match us, hl with | [_], _ => rfl) (fun cdv A outer s0 H vs Q E hr h => ?_)
  · obtain ⟨bx, gr, rfl, _⟩ := h
    rfl
  · obtain ⟨bx, gr, rfl, B, q⟩ := h
    have hu := hu_of hr
    refine ⟨_, (pss_one (ps_ret (pe_ix ix_list (pe_lst (pa_cons pe_int (pa_cons pe_int (pa_cons pe_int (pa_cons pe_int (pa_cons pe_int (pa_cons pe_int (pa_cons pe_int (pa_cons pe_int pa_nil))))))))) (cR T.g__law_take ok__law_take (hr.mono (by decide)) (by rfl) (pa_cons (pv 0) (pa_cons pe_int pa_nil))) (fun _ _ => rfl)))), ?_⟩
    refine ⟨by show 8 ≤ sizeLine; decide, fun p hp => ?_⟩
    have hpb := B.fresh hp
    refine ⟨_, rfl, bx, gr, 8, rfl, B.upd hpb, by decide, by decide, fun r H1 r0 r1 B1 s1 => ?_⟩
    have hp1 := s1.at upd_same hpb
    obtain ⟨k, rfl⟩ : ∃ k : Nat, r = k := ⟨r.toNat, by omega⟩
    have hk : k < 8 := by omega
    obtain ⟨n, hn, hv⟩ : ∃ n : Int, ([V.int 12, V.int 12, V.int 12, V.int 5, V.int 12, V.int 12, V.int 12, V.int 40] : List V)[k]? = some (.int n) ∧ (n = 12 ∨ n = 5 ∨ n = 40) := by
      match k, hk with
      | 0, _ => exact ⟨12, rfl, .inl rfl⟩
      | 1, _ => exact ⟨12, rfl, .inl rfl⟩
      | 2, _ => exact ⟨12, rfl, .inl rfl⟩
      | 3, _ => exact ⟨5, rfl, .inr (.inl rfl)⟩
      | 4, _ => exact ⟨12, rfl, .inl rfl⟩
      | 5, _ => exact ⟨12, rfl, .inl rfl⟩
      | 6, _ => exact ⟨12, rfl, .inl rfl⟩
      | 7, _ => exact ⟨40, rfl, .inr (.inr rfl)⟩
      | n + 8, h => omega
    exact ⟨p, _, _, _, rfl, rfl, SqL.of hp1, atI_nat hn, q n H1 hv B1 ((Sty.upd Sty.refl hp).trans s1)⟩
theorem ok__law_near (T : Txt P K mg a) : FnR P w K mg base CX0 1 a.f__law_near spNear := by
  obtain ⟨fd, F⟩ := T.F__law_near
  refine okR F sc__law_near (fun vs H Q E h => ?_) (fun _ _ _ _ _ _ us hl => match us, hl with | [_, _], _ => rfl) (fun cdv A outer s0 H vs Q E hr h => ?_)
  · obtain ⟨D, aP, aE, rfl, _⟩ := h
    rfl
  · obtain ⟨D, aP, aE, rfl, hP, hE, qq⟩ := h
    have hu := hu_of hr
    have n1 := D.small
    refine ⟨_, (pss_cons (ps_set (i := 2) sc__law_near.nd rfl (Or.inl rfl) pe_dnewK)
  (pss_cons (ps_for PassesOwn.never rfl (pi_tup (pv 0)) (pg_name (i := 3) sc__law_near.nd rfl (Or.inr rfl))
    (pss_one (ps_dput hu (pv 2) (pv 3) (pe_lc (own := [("_law_other", 4)]) rfl sc__law_near.nd (pi_tup (pv 0)) (blkOk_by (own := [("_law_other", 4)]) (N := N__law_near) (sc := (defScope s__law_near)) (by decide +kernel)) (fun _ _ _ _ _ => (pg_name (i := 4) sc__law_near.nd rfl (Or.inl rfl))) (fun _ _ _ _ _ => (pts_one (PW.pt (pw_or (pt_cmpR (op_inPK (K := K) rfl hr.units) (pe_tup (pa_cons (pv 3) (pa_cons (pv 4) pa_nil))) (pv 1) (by rfl)) (pw_or1 (pt_cmpR (op_inPK (K := K) rfl hr.units) (pe_tup (pa_cons (pv 4) (pa_cons (pv 3) pa_nil))) (pv 1) (by rfl))))))) (fun _ _ _ _ _ => (pv 4))) rfl)))
  (pss_one (ps_ret (pv 2))))), ?_⟩
    refine fun nd hnd => ?_
    have e1 := same_upd (o := HO.dK ([] : List (Key × V))) hnd
    have okes : ∀ f ∈ D.es, OkP f := fun f hf => by
      have := D.gt.ends _ hf
      exact ⟨(D.word _ this.1).ok, (D.word _ this.2).ok⟩
    refine ⟨_, rfl, aP, rfl, ⟨_, SqT.of (e1 _ _ hP)⟩, for_tup (K := K) (a := aP) (xs := tv D.ps) (fun i σ H' => Same H H' ∧ (∃ na : Str → Addr, H' nd = some (.dK (dkv (D.ps.take i) fun p => .ref (na p))) ∧ ∀ p ∈ D.ps.take i, H (na p) = none ∧ H' (na p) = some (.lst (tv (nearL D p)))) ∧
      ∃ (u1 : Option V), σ = [some (.ref aP), some (.ref aE), some (.ref nd), u1, none]) ⟨e1, ⟨fun _ => 0, upd_same, fun p hp => by simp at hp⟩, _, rfl⟩ (fun i σ H' _ e => SqT.of (e.1 _ _ hP)) ?_ ?_⟩
    · rintro i v σ H3 hi ⟨e3, ⟨na, hnd3, hna3⟩, u1, rfl⟩
      obtain ⟨x, hx, rfl⟩ := tv_get hi
      have hxp := List.mem_of_getElem? hx
      have hnot : x ∉ D.ps.take i := by
        intro hm
        obtain ⟨j, hj, ej⟩ := List.mem_take_iff_getElem.mp hm
        obtain ⟨h1, h2⟩ := List.getElem?_eq_some_iff.mp hx
        have := (List.getElem_inj D.gt.nd (i := j) (j := i) (h₀ := by omega) (h₁ := h1)).mp (by rw [ej, h2])
        omega
      have et : D.ps.take (i + 1) = D.ps.take i ++ [x] := by
        obtain ⟨h1, h2⟩ := List.getElem?_eq_some_iff.mp hx
        rw [List.take_succ_eq_append_getElem h1, h2]
      have fin : ∀ (x y : Str) (H4 : Hp) (R : Bool → Hp → Prop), Same H3 H4 → OkP (x, y) → (∀ H5, Same H4 H5 → R (decide ((x, y) ∈ D.es)) H5) → ∀ p, H4 p = none → rInP K (.ref p) (.ref aE) (upd H4 p (HO.tup [.str x, .str y])) (fun v H' => ∃ k, v = .bl k ∧ R k H') := fun x y H4 R e4 ok q p hp =>
        ⟨p, aE, (x, y), D.es, rfl, rfl, upd_same, hE.mono (e3.trans (Same.upd' e4 hp)), ok, okes, _, rfl, q _ (same_upd hp)⟩
      refine ⟨_, rfl, aP, rfl, ⟨_, SqT.of (e3 _ _ hP)⟩, fun B hB => lc_sel (l := D.ps) (mk := V.str) (fun z => decide (TwM.EdgeOf D.es x z)) V.str walk_tup (fun H' e => SqT.of (e _ _ (e3 _ _ hP))) (by omega) hB (fun z hz H4 e N1 N2 n => ?_) (fun H4 e4 hd4 => ?_)⟩
      · have wx := (D.word x hxp).ok
        have wz := (D.word z hz).ok
        refine ⟨rfl, _, rfl, _, rfl, by show 2 ≤ sizeLine; decide, fun p hp => ⟨_, rfl, ?_⟩⟩
        refine fin x z H4 _ e ⟨wx, wz⟩ (fun H5 e5 => ?_) p hp
        refine ite2 (fun hc => ?_) (fun hc => ?_)
        · exact ⟨_, rfl, (n H5 e5).2 (decide_eq_true (.inl (of_decide_eq_true hc)))⟩
        · refine ⟨_, rfl, _, rfl, by show 2 ≤ sizeLine; decide, fun p hp => ⟨_, rfl, ?_⟩⟩
          refine fin z x H5 _ (e.trans e5) ⟨wz, wx⟩ (fun H6 e6 => ?_) p hp
          refine ite2 (fun hc2 => ?_) (fun hc2 => ?_)
          · exact ⟨_, rfl, (n H6 (e5.trans e6)).2 (decide_eq_true (.inr (of_decide_eq_true hc2)))⟩
          · exact (n H6 (e5.trans e6)).1 (decide_eq_false fun z => z.elim (fun y => hc (decide_eq_true y)) fun y => hc2 (decide_eq_true y))
      · have hnH : H nd = none := hnd
        have hB4 : H4 B = some (.lst (tv (nearL D x))) := hd4
        refine ⟨_, rfl, _, rfl, nd, _, rfl, DPut.k (k := Sum.inr x) (e4 _ _ hnd3) (by rw [dkv_length]; exact sz_small (Nat.le_trans (by rw [List.length_take]; exact Nat.min_le_right _ _) (by omega : D.ps.length ≤ 1000))), ?_, ⟨fun q => if q = x then B else na q, ?_, fun q hq => ?_⟩, _, rfl⟩
        · exact fun b o h => by rw [upd_ne (ne_of_none h hnH)]; exact e4 _ _ (e3 _ _ h)
        · rw [upd_same, et]
          have := putK_add (l := D.ps.take i) (f := fun q => V.ref (if q = x then B else na q)) hnot
          rw [show (if x = x then B else na x) = B from if_pos rfl] at this
          rw [← this]
          congr 3
          refine dkv_congr fun q hq => ?_
          have hqx : q ≠ x := fun z => hnot (by rw [← z]; exact hq)
          rw [if_neg hqx]
        · have hpnd : B ≠ nd := fun z => by rw [z, hnd3] at hB; cases hB
          show H (if q = x then B else na q) = none ∧ upd H4 nd _ (if q = x then B else na q) = _
          by_cases e : q = x
          · rw [if_pos e, upd_ne hpnd, e]; exact ⟨e3.free hB, hB4⟩
          · rw [if_neg e]
            rw [et] at hq
            rcases List.mem_append.mp hq with hq | hq
            · obtain ⟨h9, h8⟩ := hna3 q hq
              have : na q ≠ nd := fun z => by rw [z, hnd3] at h8; cases h8
              rw [upd_ne this]; exact ⟨h9, e4 _ _ h8⟩
            · exact absurd (List.mem_singleton.mp hq) e
    · rintro σ H3 ⟨e3, ⟨na, hnd3, hna3⟩, u1, rfl⟩
      rw [tv_length, List.take_length] at hnd3 hna3
      exact ⟨_, rfl, qq nd H3 e3 hnd ⟨na, hnd3, hna3⟩⟩
end
end Tw
namespace Tw
open PySem PySem.Spec PyProof.Rows L2
/-- what the law's walk knows: W found (with ints), Lt the next layer -/
structure Lg (D : TD) (W0 W Lt : List Str) : Prop where
  nd : W.Nodup
  sub : ∀ q ∈ W, q ∈ D.ps
  gro : ∀ q ∈ W0, q ∈ W
  lay : ∀ q ∈ Lt, q ∈ W
  len : W0.length ≤ W.length
  new : Lt = [] ∨ W0.length < W.length
section
variable {P : Program} {w : World} {K : PySem.W.Frag} {mg : Str → Option Value} {base : Heap} {a : Ads}
theorem ok__law_gaps (T : Txt P K mg a) : FnR P w K mg base CX0 1 a.f__law_gaps spLGaps := by
  obtain ⟨fd, F⟩ := T.F__law_gaps
  refine okR F sc__law_gaps (fun vs H Q E h => ?_) (fun _ _ _ _ _ _ us hl => match us, hl with | [_, _], _ => rfl) (fun cdv A outer s0 H vs Q E hr h => ?_)
  · obtain ⟨D, r, s, rfl, _⟩ := h
    rfl
  · obtain ⟨D, r, s, rfl, hN, hs, qq⟩ := h
    have hu := hu_of hr
    have n1 := D.small
    obtain ⟨na, hnd, hna⟩ := hN
    refine ⟨_, (pss_cons (ps_par (i := 2) (j := 3) rfl sc__law_gaps.nd rfl rfl (by decide) rfl rfl (pa_cons (pe_disp (pps_cons (pv 1) pe_int pps_nil) (by rfl) (by rfl) (fun z => by cases z) (by decide)) (pa_cons (pe_lst (pa_cons (pv 1) pa_nil)) pa_nil)) (by rfl))
  (pss_cons (ps_while PassesOwn.never (pt_cmpR op_gt (pe_callB call_len_seq (by rfl) T.n_len PySem.boot_len (pa_cons (pv 3) pa_nil)) pe_int (nomark _))
    (pss_cons (ps_set (i := 4) sc__law_gaps.nd rfl (Or.inl rfl) (pe_lst pa_nil))
  (pss_cons (ps_for PassesOwn.never rfl (pi_list (pv 3)) (pg_name (i := 5) sc__law_gaps.nd rfl (Or.inl rfl))
    (pss_one (ps_for PassesOwn.never rfl (pi_list (pe_dget hu (pv 0) (pv 5) (fun _ _ => rfl))) (pg_name (i := 6) sc__law_gaps.nd rfl (Or.inl rfl))
    (pss_one (ps_if (pt_cmp (pc_dnotin hu (pv 6) (pv 2))) (pss_cons (ps_dput hu (pv 2) (pv 6) (pe_op op_add (pe_dget hu (pv 2) (pv 5) (fun _ _ => rfl)) pe_int) rfl)
  (pss_one (ps_expr (pe_bm PySem.F.plainAttrs_list PySem.F.slot_list_append PySem.F.type_list_append mt_append (pv 4) (pa_cons (pv 6) pa_nil))))) pss_nil)))))
  (pss_one (ps_set (i := 3) sc__law_gaps.nd rfl (Or.inl rfl) (pv 4))))))
  (pss_one (ps_ret (pv 2))))), ?_⟩
    refine fun g hg => ⟨_, rfl, upd_same, [(Sum.inr s, .int 0)], rfl, by show 1 ≤ 15; decide, _, rfl, by show 1 ≤ sizeLine; decide, fun l hl => ⟨_, _, rfl, ?_⟩⟩
    have eg : mergeK ([] : List (Key × V)) [(Sum.inr s, .int 0)] = dkv [s] fun _ => .int 0 := rfl
    rw [eg, upd_upd] at hl ⊢
    have e1 : Same H (upd (upd H g (.dK (dkv [s] fun _ => .int 0))) l (.lst (tv [s]))) := Same.upd' (same_upd hg) hl
    have hgl : g ≠ l := fun z => by rw [← z, upd_same] at hl; cases hl
    refine ⟨fun m σ H' => Same H H' ∧ ∃ (W L : List Str) (f : Str → Int) (la : Addr) (u1 u2 u3 : Option V), m = 2 * (40 - W.length) + (if L = [] then 0 else 1) ∧ W.Nodup ∧ (∀ q ∈ W, q ∈ D.ps) ∧ (∀ q ∈ L, q ∈ W) ∧ la ≠ g ∧ H' g = some (.dK (dkv W fun q => .int (f q))) ∧ H' la = some (.lst (tv L)) ∧ L.length ≤ 2000000 ∧ σ = [some (.ref r), some (.str s), some (.ref g), some (.ref la), u1, u2, u3],
      ⟨_, e1, [s], [s], fun _ => 0, l, none, none, none, rfl, by simp, fun q hq => by rw [List.mem_singleton.mp hq]; exact hs, fun q hq => hq, Ne.symm hgl, by rw [upd_ne hgl]; exact upd_same, upd_same, by show 1 ≤ 2000000; decide, rfl⟩, ?_⟩
    rintro m σ H2 ⟨e2, W, L, f, la, u1, u2, u3, rfl, hnd2, hsub, hLW, hlag, hG, hL, hLl, rfl⟩
    have hWl : W.length ≤ 40 := Nat.le_trans (nodup_le hnd2 hsub) n1
    refine ⟨_, rfl, la, _, rfl, .inl (SqL.of hL), _, _, rfl, rfl, _, rfl, ?_⟩
    rw [tv_length]
    refine ite2 (fun hc => ?_) (fun hc => ?_)
    · have hLne : L ≠ [] := fun z => by rw [z] at hc; exact absurd (of_decide_eq_true hc) (by decide)
      refine ⟨_, fun σ' H' h => h, ?_⟩
      refine ⟨by show 0 ≤ sizeLine; decide, fun lt hlt => ?_⟩
      have hlt2 : lt ≠ g ∧ lt ≠ la := ⟨fun z => by rw [z, hG] at hlt; (try cases hlt), fun z => by rw [z, hL] at hlt; (try cases hlt)⟩
      have hltH : H lt = none := e2.free hlt
      have e3 := Same.upd' (o := HO.lst []) e2 hlt
      -- the two loops
      refine ⟨_, rfl, la, rfl, ⟨_, SqL.of (by rw [upd_ne (Ne.symm hlt2.2)]; exact hL)⟩, for_list (K := K) (a := la) (xs := tv L) (fun i σ H' => Same H H' ∧ ∃ (W' L' : List Str) (f' : Str → Int) (u2 u3 : Option V), Lg D W W' L' ∧ L'.length ≤ W'.length ∧ H' g = some (.dK (dkv W' fun q => .int (f' q))) ∧ H' la = some (.lst (tv L)) ∧ H' lt = some (.lst (tv L')) ∧ σ = [some (.ref r), some (.str s), some (.ref g), some (.ref la), some (.ref lt), u2, u3])
        ⟨e3, W, [], f, u2, u3, ⟨hnd2, hsub, fun q h => h, fun q h => by simp at h, Nat.le_refl _, .inl rfl⟩, Nat.zero_le _, by rw [upd_ne (Ne.symm hlt2.1)]; exact hG, by rw [upd_ne (Ne.symm hlt2.2)]; exact hL, upd_same, rfl⟩ (fun i σ H' _ e => by obtain ⟨_, _, _, _, _, _, _, _, _, h, _⟩ := e; exact SqL.of h) ?_ ?_⟩
      · rintro i v σ H3 hi ⟨e3, W', L', f', u2', u3', lg, hl', hG3, hL3, hlt3, rfl⟩
        obtain ⟨x, hx, rfl⟩ := tv_get hi
        have hxL := List.mem_of_getElem? hx
        have hxW := lg.gro x (hLW x hxL)
        have hxp := lg.sub x hxW
        refine ⟨_, rfl, _, rfl, r, _, rfl, dget (e3 _ _ hnd) (dkv_at hxp), na x, rfl, ⟨_, SqL.of (e3 _ _ (hna x hxp))⟩, for_list (K := K) (a := na x) (xs := tv (nearL D x)) (fun i σ H' => Same H H' ∧ ∃ (W' L' : List Str) (f' : Str → Int) (u3 : Option V), Lg D W W' L' ∧ L'.length ≤ W'.length ∧ H' g = some (.dK (dkv W' fun q => .int (f' q))) ∧ H' la = some (.lst (tv L)) ∧ H' lt = some (.lst (tv L')) ∧ σ = [some (.ref r), some (.str s), some (.ref g), some (.ref la), some (.ref lt), some (.str x), u3])
          ⟨e3, W', L', f', u3', lg, hl', hG3, hL3, hlt3, rfl⟩ (fun i σ H' _ e => SqL.of (e.1 _ _ (hna x hxp))) ?_ ?_⟩
        · rintro i v σ H4 hi ⟨e4, W'', L'', f'', u3'', lg4, hl4, hG4, hL4, hlt4, rfl⟩
          obtain ⟨z, hz, rfl⟩ := tv_get hi
          have hzp := (List.mem_filter.mp (List.mem_of_getElem? hz)).1
          have hwl : W''.length ≤ 40 := Nat.le_trans (nodup_le lg4.nd lg4.sub) n1
          have hxW4 := lg4.gro x (hLW x hxL)
          refine ⟨_, rfl, _, rfl, g, _, rfl, DGet.k (k := Sum.inr z) hG4, _, rfl, ?_⟩
          rw [dkv_val]
          by_cases hzW : z ∈ W''
          · rw [if_pos hzW]
            exact iteF ⟨e4, W'', L'', f'', _, lg4, hl4, hG4, hL4, hlt4, rfl⟩
          · rw [if_neg hzW]
            refine iteT ?_
            refine ⟨_, rfl, _, rfl, g, _, rfl, dget hG4 (dkv_at hxW4), _, _, rfl, rfl, _, rfl, _, rfl, g, _, rfl, DPut.k (k := Sum.inr z) hG4 (by rw [dkv_length]; exact sz_small (by omega)), ?_⟩
            have eput := putK_add (l := W'') (f := fun q => V.int (if q = z then f'' x + 1 else f'' q)) hzW
            rw [show (if z = z then f'' x + 1 else f'' z) = f'' x + 1 from if_pos rfl] at eput
            rw [show dkv W'' (fun q => V.int (f'' q)) = dkv W'' (fun q => V.int (if q = z then f'' x + 1 else f'' q)) from dkv_congr fun q hq => by rw [if_neg (fun y => hzW (by rw [← y]; exact hq))], eput]
            refine ⟨_, rfl, .inl ⟨rfl, _, SqL.of (by rw [upd_ne hlt2.1]; exact hlt4)⟩, _, rfl, lt, _, _, rfl, rfl, by rw [upd_ne hlt2.1]; exact hlt4, by rw [tv_length]; exact sz_small (by omega), ?_⟩
            refine ⟨fun b o h => by rw [upd_ne (ne_of_none h hltH), upd_ne (ne_of_none h hg)]; exact e4 _ _ h, W'' ++ [z], L'' ++ [z], _, _, ⟨?_, fun q hq => ?_, fun q hq => List.mem_append_left _ (lg4.gro q hq), fun q hq => ?_, ?_, .inr ?_⟩, ?_, by rw [upd_ne (Ne.symm hlt2.1)]; exact upd_same, ?_, ?_, rfl⟩
            · rw [List.nodup_append]
              exact ⟨lg4.nd, by simp, fun x hx y hy z => by rw [List.mem_singleton] at hy; rw [z, hy] at hx; exact hzW hx⟩
            · rcases List.mem_append.mp hq with hq | hq
              · exact lg4.sub q hq
              · rw [List.mem_singleton.mp hq]; exact hzp
            · rcases List.mem_append.mp hq with hq | hq
              · exact List.mem_append_left _ (lg4.lay q hq)
              · exact List.mem_append_right _ hq
            · have := lg4.len; rw [List.length_append]; omega
            · have := lg4.len; rw [List.length_append]; show _ < _ + 1; omega
            · rw [List.length_append, List.length_append]; show _ + 1 ≤ _ + 1; omega
            · rw [upd_ne (Ne.symm hlt2.2), upd_ne hlag]; exact hL4
            · rw [upd_same]
              unfold tv
              rw [List.map_append]; rfl
        · rintro σ H4 ⟨e4, W'', L'', f'', u3'', lg4, hl4, hG4, hL4, hlt4, rfl⟩
          exact ⟨e4, W'', L'', f'', _, _, lg4, hl4, hG4, hL4, hlt4, rfl⟩
      · rintro σ H3 ⟨e3, W', L', f', u2', u3', lg, hl', hG3, hL3, hlt3, rfl⟩
        have hwl : W'.length ≤ 40 := Nat.le_trans (nodup_le lg.nd lg.sub) n1
        refine ⟨_, rfl, ⟨_, ?_, e3, W', L', f', lt, _, _, _, rfl, lg.nd, lg.sub, lg.lay, hlt2.1, hG3, hlt3, by omega, rfl⟩⟩
        rw [if_neg hLne]
        rcases lg.new with z | z
        · rw [if_pos z]; have := lg.len; omega
        · have : (if L' = [] then 0 else 1) ≤ 1 := by split <;> omega
          omega
    · exact ⟨_, rfl, qq g H2 e2 hg⟩
end
end Tw
namespace Tw
open PySem PySem.Spec PyProof.Rows L2
theorem cut_drop (xs : List V) (i : Nat) : cutV xs (some (i : Int)) none = xs.drop i := by
  unfold cutV
  show (xs.drop (HT.sIx xs.length 0 (some (i : Int)))).take (xs.length - HT.sIx xs.length 0 (some (i : Int))) = _
  have e : HT.sIx xs.length 0 (some (i : Int)) = min i xs.length := by
    unfold HT.sIx
    simp only []
    split
    · omega
    · rw [Int.toNat_natCast]
  rw [e]
  rcases Nat.le_total i xs.length with h | h
  · rw [Nat.min_eq_left h, List.take_of_length_le (by rw [List.length_drop]; omega)]
  · rw [Nat.min_eq_right h, Nat.sub_self, List.take_zero, List.drop_eq_nil_of_le h]
section
variable {P : Program} {w : World} {K : PySem.W.Frag} {mg : Str → Option Value} {base : Heap} {a : Ads}
theorem GroveAt.off {H : Hp} {bx gr t g : Addr} {S : List Str} (G : GroveAt a H t g S) (B : BoxAt H bx gr) : GroveAt a (Off bx gr H) t g S := by
  obtain ⟨C, dx, aO, fs, h0, h1, h2, h3, h4, h5⟩ := G.ex
  obtain ⟨gl, now, seed, turn, b1, b2, _⟩ := B.ex
  refine ⟨C, dx, aO, fs, h0, off_at h1 ⟨fun z => ?_, fun z => ?_⟩, h2, h3, off_at h4 ⟨fun z => ?_, fun z => ?_⟩, h5⟩
  · rw [z, b1] at h1; cases h1
  · rw [z, b2] at h1; cases h1
  · rw [z, b1] at h4; cases h4
  · rw [z, b2] at h4; cases h4
/-- one >> of two groves -/
theorem shift_ans (T : Txt P K mg a) {D : TD} {t g1 g2 : Addr} {A B : List Str} {H : Hp} {Q : VK} (TA : TreeAt a D H t) (G1 : GroveAt a H t g1 A) (G2 : GroveAt a H t g2 B) (x : GrD D A) (y : GrD D B) (q : ∀ g H', Same H H' → H g = none → GroveAt a H' t g (TwM.aft D.d A B) → Q (.ref g) H') :
    rShiftI K a.f_GroveX_rshiftX (spShift a) (.ref g1) (.ref g2) H Q := by
  obtain ⟨C1, dx1, o1, fs1, c1, h1, _⟩ := G1.ex
  obtain ⟨C2, dx2, o2, fs2, c2, h2, _⟩ := G2.ex
  exact ⟨g1, g2, C1, C2, dx1, dx2, fs1, fs2, rfl, rfl, h1, h2, T.gsh _ c1, T.gsh _ c2, T.gsub _ _ c1 c2, D, t, g1, g2, A, B, rfl, TA, G1, G2, x, y, q⟩
theorem ok__law_composed (T : Txt P K mg a) : FnR P w K mg base CX0 5 a.f__law_composed (spComposed a) := by
  obtain ⟨fd, F⟩ := T.F__law_composed
  have ok_GroveX_rshiftX := ok_GroveX_rshiftX (P := P) (w := w) (base := base) T
  refine okR F sc__law_composed (fun vs H Q E h => ?_) (fun _ _ _ _ _ _ us hl => match us, hl with | [_], _ => rfl) (fun cdv A outer s0 H vs Q E hr h => ?_)
  · obtain ⟨D, t, l, gs, rfl, _⟩ := h
    rfl
  · obtain ⟨D, t, l, gs, rfl, TA, GS, hne, hlen, q⟩ := h
    have hu := hu_of hr
    obtain ⟨⟨g0, S0⟩, gr, rfl⟩ := TwM.ne_cons hne
    refine ⟨_, (pss_cons (ps_set (i := 1) sc__law_composed.nd rfl (Or.inl rfl) (pe_ix ix_list (pv 0) pe_int (fun _ _ => rfl)))
  (pss_cons (ps_for PassesOwn.never rfl (pi_list (pe_slice sl_list (pv 0) (po_some pe_int) po_none)) (pg_name (i := 2) sc__law_composed.nd rfl (Or.inl rfl))
    (pss_one (ps_set (i := 1) sc__law_composed.nd rfl (Or.inl rfl) (pe_op (op_shiftI T.fn_GroveX_rshiftX ok_GroveX_rshiftX (hr.mono (by decide))) (pv 1) (pv 2)))))
  (pss_one (ps_ret (pv 1))))), ?_⟩
    refine ⟨_, rfl, l, _, _, _, rfl, rfl, SqL.of GS.1, atI_nat (j := 0) rfl, ?_⟩
    refine ⟨_, rfl, _, rfl, l, _, rfl, SqL.of GS.1, fun p hp => ⟨p, rfl, ⟨_, SqL.of upd_same⟩, ?_⟩⟩
    have ec : cutV (((g0, S0) :: gr).map fun p => V.ref p.1) (some 1) none = gr.map fun p => V.ref p.1 := by
      have := cut_drop (((g0, S0) :: gr).map fun p => V.ref p.1) 1
      exact this
    rw [ec]
    have e1 := same_upd (o := HO.lst (gr.map fun p => V.ref p.1)) hp
    have hp1 : upd H p (HO.lst (gr.map fun p => V.ref p.1)) p = some (.lst (gr.map fun p => V.ref p.1)) := upd_same
    generalize upd H p (HO.lst (gr.map fun p => V.ref p.1)) = H1 at e1 hp1 ⊢
    refine for_list (K := K) (a := p) (xs := gr.map fun p => V.ref p.1) (fun i σ H' => Same H1 H' ∧ ∃ (g : Addr) (S : List Str) (u : Option V), GroveAt a H' t g S ∧ GrD D S ∧ TwM.comp D.d S ((gr.drop i).map Prod.snd) = TwM.comp D.d S0 (gr.map Prod.snd) ∧ σ = [some (.ref l), some (.ref g), u])
      ⟨fun _ _ z => z, g0, S0, none, ((GS.2 _ List.mem_cons_self).1).mono e1, (GS.2 _ List.mem_cons_self).2, rfl, rfl⟩ (fun i σ H' _ e => SqL.of (e.1 _ _ hp1)) ?_ ?_
    · rintro i v σ H2 hi ⟨e2, g, S, u, G, gd, ec, rfl⟩
      rw [List.getElem?_map] at hi
      obtain ⟨⟨g2, S2⟩, hz, rfl⟩ := Option.map_eq_some_iff.mp hi
      have hm : (g2, S2) ∈ (g0, S0) :: gr := List.mem_cons_of_mem _ (List.mem_of_getElem? hz)
      have G2 := ((GS.2 _ hm).1).mono (e1.trans e2)
      have gd2 : GrD D S2 := (GS.2 _ hm).2
      have ed : gr.drop i = (g2, S2) :: gr.drop (i + 1) := by
        obtain ⟨h1, h2⟩ := List.getElem?_eq_some_iff.mp hz
        rw [← h2]; exact List.drop_eq_getElem_cons h1
      refine ⟨_, rfl, _, rfl, ?_⟩
      refine shift_ans T (TA.mono (e1.trans e2)) G G2 gd gd2 fun g' H3 e3 hg' G' => ?_
      refine ⟨e2.trans e3, g', _, _, G', TwM.aft_gr D.gt.tm D.gt.nd gd gd2, ?_, rfl⟩
      rw [← ec, ed]
      rfl
    · rintro σ H2 ⟨e2, g, S, u, G, gd, ec, rfl⟩
      rw [List.length_map, List.drop_length] at ec
      refine ⟨_, rfl, q g H2 (e1.trans e2) ?_⟩
      have ec' : S = TwM.comp D.d S0 (gr.map Prod.snd) := ec
      show GroveAt a H2 t g (TwM.comp D.d S0 (gr.map Prod.snd))
      rw [← ec']
      exact G
theorem ok__law_bracketed (T : Txt P K mg a) : FnR P w K mg base CX0 5 a.f__law_bracketed (spBracketed a) := by
  obtain ⟨fd, F⟩ := T.F__law_bracketed
  have ok_GroveX_rshiftX := ok_GroveX_rshiftX (P := P) (w := w) (base := base) T
  have ok__law_take := ok__law_take (P := P) (w := w) (base := base) T
  refine okR F sc__law_bracketed (fun vs H Q E h => ?_) (fun _ _ _ _ _ _ us hl => match us, hl with | [_, _], _ => rfl) (fun cdv A outer s0 H vs Q E hr h => ?_)
  · obtain ⟨D, bx, gr, t, l, gs, rfl, _⟩ := h
    rfl
  · obtain ⟨D, bx, gr, t, l, gs, rfl, B, TA, GS, hne, hlen, q⟩ := h
    have hu := hu_of hr
    refine ⟨_, (pss_cons (ps_set (i := 2) sc__law_bracketed.nd rfl (Or.inl rfl) (pe_callTy call_list_of (by rfl) T.n_list (by decide +kernel) (pa_cons (pv 1) pa_nil)))
  (pss_cons (ps_while PassesOwn.never (pt_cmpR op_gt (pe_callB call_len_seq (by rfl) T.n_len PySem.boot_len (pa_cons (pv 2) pa_nil)) pe_int (nomark _))
    (pss_cons (ps_set (i := 3) sc__law_bracketed.nd rfl (Or.inl rfl) (cR T.g__law_take ok__law_take (hr.mono (by decide)) (by rfl) (pa_cons (pv 0) (pa_cons (pe_op op_sub (pe_callB call_len_seq (by rfl) T.n_len PySem.boot_len (pa_cons (pv 2) pa_nil)) pe_int) pa_nil))))
  (pss_one (ps_set (i := 2) sc__law_bracketed.nd rfl (Or.inl rfl) (pe_op op_cat (pe_op op_cat (pe_slice sl_list (pv 2) po_none (po_some (pv 3))) (pe_lst (pa_cons (pe_op (op_shiftI T.fn_GroveX_rshiftX ok_GroveX_rshiftX (hr.mono (by decide))) (pe_ix ix_list (pv 2) (pv 3) (fun _ _ => rfl)) (pe_ix ix_list (pv 2) (pe_op op_add (pv 3) pe_int) (fun _ _ => rfl))) pa_nil))) (pe_slice sl_list (pv 2) (po_some (pe_op op_add (pv 3) pe_int)) po_none))))))
  (pss_one (ps_ret (pe_ix ix_list (pv 2) pe_int (fun _ _ => rfl)))))), ?_⟩
    refine ⟨_, rfl, l, _, rfl, .inl (SqL.of (off_same _ _ GS.1)), fun L hL => ?_⟩
    have hLb := B.fresh hL
    have s1 : Sty bx gr H (upd H L (.lst (gs.map fun p => .ref p.1))) := Sty.of (same_upd hL)
    refine ⟨fun m σ H' => BoxAt H' bx gr ∧ Sty bx gr H H' ∧ ∃ (L : Addr) (gs' : List (Addr × List Str)) (u : Option V), m = gs'.length ∧ GrovesAt a D (Off bx gr H') t L gs' ∧ gs' ≠ [] ∧ gs'.length ≤ 1000 ∧ TwM.comp1 D.d (gs'.map Prod.snd) = TwM.comp1 D.d (gs.map Prod.snd) ∧ σ = [some (.ref bx), some (.ref l), some (.ref L), u],
      ⟨_, B.upd hLb, s1, L, gs, none, rfl, ⟨off_at upd_same hLb, fun p hp => ⟨((GS.2 p hp).1).mono s1, (GS.2 p hp).2⟩⟩, hne, hlen, rfl, rfl⟩, ?_⟩
    rintro m σ H1 ⟨B1, s1, L, gs', u, rfl, G1, ne1, len1, c1, rfl⟩
    have hL1 := off_same _ _ G1.1
    refine ⟨_, rfl, L, _, rfl, .inl (SqL.of hL1), _, _, rfl, rfl, _, rfl, ?_⟩
    rw [List.length_map]
    refine ite2 (fun hc => ?_) (fun hc => ?_)
    · have h2 : 1 < gs'.length := by have := of_decide_eq_true hc; omega
      refine ⟨_, fun σ' H' h => h, ?_⟩
      refine ⟨_, rfl, _, rfl, L, _, rfl, .inl (SqL.of hL1), _, _, rfl, rfl, bx, gr, _, rfl, B1, by rw [List.length_map]; omega, by rw [List.length_map]; omega, fun r H2 r0 r1 B2 s2 => ?_⟩
      rw [List.length_map] at r1
      obtain ⟨k, rfl⟩ : ∃ k : Nat, r = k := ⟨r.toNat, by omega⟩
      have hk : k + 1 < gs'.length := by omega
      obtain ⟨⟨ga, SA⟩, hA⟩ : ∃ y, gs'[k]? = some y := ⟨_, List.getElem?_eq_getElem (by omega)⟩
      obtain ⟨⟨gb, SB⟩, hB⟩ : ∃ y, gs'[k + 1]? = some y := ⟨_, List.getElem?_eq_getElem hk⟩
      have GA := G1.2 _ (List.mem_of_getElem? hA)
      have GB := G1.2 _ (List.mem_of_getElem? hB)
      have hsplit : gs' = gs'.take k ++ (ga, SA) :: (gb, SB) :: gs'.drop (k + 2) := by
        have e1 : gs'.drop k = (ga, SA) :: gs'.drop (k + 1) := by
          obtain ⟨q1, q2⟩ := List.getElem?_eq_some_iff.mp hA
          rw [← q2]; exact List.drop_eq_getElem_cons q1
        have e2 : gs'.drop (k + 1) = (gb, SB) :: gs'.drop (k + 2) := by
          obtain ⟨q1, q2⟩ := List.getElem?_eq_some_iff.mp hB
          rw [← q2]; exact List.drop_eq_getElem_cons q1
        rw [← e2, ← e1, List.take_append_drop]
      have hall : ∀ C ∈ (gs'.take k).map Prod.snd ++ SA :: SB :: (gs'.drop (k + 2)).map Prod.snd, TwM.Gr D.ps D.d C := by
        have e : (gs'.take k).map Prod.snd ++ SA :: SB :: (gs'.drop (k + 2)).map Prod.snd = gs'.map Prod.snd := by
          rw [hsplit, List.map_append]
          simp only [List.map_cons]
          rw [← hsplit]
        rw [e]
        intro C hC
        obtain ⟨p, hp, rfl⟩ := List.mem_map.mp hC
        exact (G1.2 p hp).2
      have L2 := s2 _ _ G1.1
      have hLb2 := off_some L2
      refine ⟨_, rfl, _, rfl, _, rfl, L, _, rfl, SqL.of hLb2.2.2, fun p1 hp1 => ?_⟩
      rw [cut_take]
      have e1 := same_upd (o := HO.lst ((gs'.map fun p => V.ref p.1).take k)) hp1
      have hq1 : upd H2 p1 (HO.lst ((gs'.map fun p => V.ref p.1).take k)) p1 = some (.lst ((gs'.map fun p => V.ref p.1).take k)) := upd_same
      generalize upd H2 p1 (HO.lst ((gs'.map fun p => V.ref p.1).take k)) = H3 at e1 hq1 ⊢
      have L3 := e1 _ _ hLb2.2.2
      have m3 : Same (Off bx gr H1) H3 := (Same.trans s2 off_same).trans e1
      refine ⟨_, rfl, _, rfl, L, _, _, _, rfl, rfl, SqL.of L3, atI_nat (j := k) (by rw [List.getElem?_map, hA]; rfl), _, rfl, _, rfl, _, _, rfl, rfl, L, _, _, _, rfl, rfl, SqL.of L3, atI_nat (j := k + 1) (by rw [List.getElem?_map, hB]; rfl), ?_⟩
      refine shift_ans T ((TA.mono s1).mono m3) (GA.1.mono m3) (GB.1.mono m3) GA.2 GB.2 fun g H4 e4 hg G4 => ?_
      refine ⟨by show 1 ≤ sizeLine; decide, fun p2 hp2 => ?_⟩
      have e5 := e4.trans (same_upd (o := HO.lst [V.ref g]) hp2)
      have hq2 : upd H4 p2 (HO.lst [V.ref g]) p2 = some (.lst [V.ref g]) := upd_same
      have G5 := G4.mono (same_upd (o := HO.lst [V.ref g]) hp2)
      show rCat _ _ (upd H4 p2 (HO.lst [V.ref g])) _
      generalize upd H4 p2 (HO.lst [V.ref g]) = H5 at e5 hq2 G5 ⊢
      have lk : ((gs'.map fun p => V.ref p.1).take k).length ≤ 1000 := by rw [List.length_take, List.length_map]; omega
      have sz : (2001 : Nat) ≤ sizeLine := by decide
      refine ⟨p1, p2, _, _, rfl, rfl, e5 _ _ hq1, hq2, (by show _ + 1 ≤ _; omega), fun p3 hp3 => ?_⟩
      have e6 := e5.trans (same_upd (o := HO.lst ((gs'.map fun p => V.ref p.1).take k ++ [V.ref g])) hp3)
      have e6' := same_upd (o := HO.lst ((gs'.map fun p => V.ref p.1).take k ++ [V.ref g])) hp3
      have hq3 : upd H5 p3 (HO.lst ((gs'.map fun p => V.ref p.1).take k ++ [V.ref g])) p3 = some (.lst ((gs'.map fun p => V.ref p.1).take k ++ [V.ref g])) := upd_same
      generalize upd H5 p3 (HO.lst ((gs'.map fun p => V.ref p.1).take k ++ [V.ref g])) = H6 at e6 e6' hq3 ⊢
      refine ⟨_, rfl, _, rfl, _, _, rfl, rfl, _, rfl, L, _, rfl, SqL.of (e6 _ _ L3), fun p4 hp4 => ?_⟩
      have ecd : cutV (gs'.map fun p => V.ref p.1) (some ((k : Int) + 2)) none = (gs'.drop (k + 2)).map fun p => V.ref p.1 := by
        rw [List.map_drop]; exact cut_drop _ (k + 2)
      rw [ecd]
      have e7' := same_upd (o := HO.lst ((gs'.drop (k + 2)).map fun p => V.ref p.1)) hp4
      have hq4 : upd H6 p4 (HO.lst ((gs'.drop (k + 2)).map fun p => V.ref p.1)) p4 = some (.lst ((gs'.drop (k + 2)).map fun p => V.ref p.1)) := upd_same
      generalize upd H6 p4 (HO.lst ((gs'.drop (k + 2)).map fun p => V.ref p.1)) = H7 at e7' hq4 ⊢
      refine ⟨p3, p4, _, _, rfl, rfl, e7' _ _ hq3, hq4, (by rw [List.length_append, List.length_map, List.length_drop]; show _ + 1 + _ ≤ _; omega), fun p5 hp5 => ?_⟩
      have ef : (gs'.map fun p => V.ref p.1).take k ++ [V.ref g] ++ ((gs'.drop (k + 2)).map fun p => V.ref p.1) = (gs'.take k ++ (g, TwM.aft D.d SA SB) :: gs'.drop (k + 2)).map fun p => V.ref p.1 := by
        rw [List.map_append, List.map_cons, List.map_take, List.append_assoc]; rfl
      rw [ef]
      have e27 : Same H2 H7 := (e1.trans e6).trans e7'
      have e78 := same_upd (o := HO.lst ((gs'.take k ++ (g, TwM.aft D.d SA SB) :: gs'.drop (k + 2)).map fun p => V.ref p.1)) hp5
      have e28 := e27.trans e78
      have B7 := B2.mono e27
      have hb5 := B7.fresh hp5
      have B8 := B2.mono e28
      have G8 := ((G5.mono (e6'.trans (e7'.trans e78))).off B8)
      have s8 := s2.trans (Sty.of e28)
      refine ⟨_, ?_, B8, s1.trans s8, p5, gs'.take k ++ (g, TwM.aft D.d SA SB) :: gs'.drop (k + 2), _, rfl, ⟨off_at upd_same hb5, fun p hp => ?_⟩, by simp, ?_, ?_, rfl⟩
      · rw [List.length_append, List.length_cons, List.length_take, List.length_drop]; omega
      · rcases List.mem_append.mp hp with hp | hp
        · have := G1.2 p (List.mem_of_mem_take hp)
          exact ⟨this.1.mono s8, this.2⟩
        · rcases List.mem_cons.mp hp with rfl | hp
          · exact ⟨G8, TwM.aft_gr D.gt.tm D.gt.nd GA.2 GB.2⟩
          · have := G1.2 p (List.mem_of_mem_drop hp)
            exact ⟨this.1.mono s8, this.2⟩
      · rw [List.length_append, List.length_cons, List.length_take, List.length_drop]; omega
      · rw [← c1, List.map_append, List.map_cons]
        have := TwM.comp1_join D.gt.tm D.gt.nd hall
        rw [this]
        conv => rhs; rw [hsplit, List.map_append, List.map_cons, List.map_cons]
    · have hl : gs'.length = 1 := by
        have h0 := List.length_pos_iff.mpr ne1
        rcases Nat.lt_or_ge 1 gs'.length with z | z
        · exact absurd (decide_eq_true (by omega)) hc
        · omega
      obtain ⟨⟨g, S⟩, rfl⟩ := List.length_eq_one_iff.mp hl
      refine ⟨_, rfl, L, _, _, _, rfl, rfl, SqL.of hL1, atI_nat (j := 0) rfl, ?_⟩
      refine q g H1 B1 s1 ?_
      have := (G1.2 _ List.mem_cons_self).1
      rw [← c1]
      exact this
end
end Tw
/-! names: plain facts -/
namespace Tw
open PySem PySem.Spec PyProof.Rows L2
theorem perm_map_aux {α β : Type} {f : α → β} : ∀ {xs ys : List β}, xs.Perm ys → ∀ l : List α, xs = l.map f → ∃ l', ys = l'.map f ∧ l.Perm l' := by
  intro xs ys h
  induction h with
  | nil => intro l e; exact ⟨l, e, List.Perm.refl _⟩
  | cons x _ ih =>
    intro l e
    cases l with
    | nil => cases e
    | cons a r =>
      obtain ⟨e1, e2⟩ := List.cons.inj e
      obtain ⟨l', h1, h2⟩ := ih r e2
      exact ⟨a :: l', by rw [e1, h1]; rfl, h2.cons a⟩
  | swap x y r =>
    intro l e
    match l, e with
    | a :: b :: r', e =>
      obtain ⟨e1, e2⟩ := List.cons.inj e
      obtain ⟨e3, e4⟩ := List.cons.inj e2
      exact ⟨b :: a :: r', by rw [e1, e3, e4]; rfl, List.Perm.swap b a r'⟩
  | trans _ _ ih1 ih2 =>
    intro l e
    obtain ⟨l1, h1, p1⟩ := ih1 l e
    obtain ⟨l2, h2, p2⟩ := ih2 l1 h1
    exact ⟨l2, h2, p1.trans p2⟩
theorem perm_map_inv {α β : Type} {f : α → β} {l : List α} {ys : List β} (h : (l.map f).Perm ys) : ∃ l', ys = l'.map f ∧ l.Perm l' := perm_map_aux h l rfl
/-- a list of m names -/
structure NamesOk (ws : List Str) (m : Nat) : Prop where
  nd : ws.Nodup
  len : ws.length = m
  word : ∀ x ∈ ws, WordOk x
theorem NamesOk.perm {ws ws' : List Str} {m : Nat} (h : NamesOk ws m) (p : ws.Perm ws') : NamesOk ws' m :=
  ⟨p.nodup_iff.mp h.nd, by rw [← p.length_eq]; exact h.len, fun x hx => h.word x (p.mem_iff.mpr hx)⟩
theorem NamesOk.take {l : List Str} {m : Nat} (nd : l.Nodup) (w : ∀ x ∈ l, WordOk x) (hm : m ≤ l.length) : NamesOk (l.take m) m :=
  ⟨nd.sublist (List.take_sublist _ _), by rw [List.length_take]; omega, fun x hx => w x (List.mem_of_mem_take hx)⟩
def wordB (x : Str) : Bool := decide (1 ≤ x.cps.size) && decide (x.cps.size ≤ 6) && x.cps.toList.all fun c => decide (97 ≤ c) && decide (c < 123)
theorem wordB_ok {x : Str} (h : wordB x = true) : WordOk x := by
  unfold wordB at h
  rw [Bool.and_eq_true, Bool.and_eq_true, decide_eq_true_iff, decide_eq_true_iff, List.all_eq_true] at h
  refine ⟨h.1.1, h.1.2, fun c hc => ?_⟩
  have := h.2 c hc
  rw [Bool.and_eq_true, decide_eq_true_iff, decide_eq_true_iff] at this
  exact this
def AZ : Str := "abcdefghijklmnopqrstuvwxyz"
theorem az_size : AZ.cps.size = 26 := by decide +kernel
theorem az_at : ∀ k : Fin 26, AZ.cps.toList[k.val]? = some (97 + k.val) := by decide +kernel
theorem az_atI {i : Int} (h0 : 0 ≤ i) (h1 : i < 26) : atI AZ.cps.toList i = some (97 + i.toNat) := by
  obtain ⟨k, rfl⟩ : ∃ k : Nat, i = k := ⟨i.toNat, by omega⟩
  exact atI_nat (az_at ⟨k, by omega⟩)
def WORDS : List Str := ["places", "edge", "rope", "party", "pull", "row", "undo", "show", "reach", "haul", "rest", "free", "nobody", "still", "length", "a"]
theorem words_eq : Txt.split "places edge rope party pull row undo show reach haul rest free nobody still length a" " " = WORDS := by decide +kernel
theorem words_ok : WORDS.Nodup ∧ WORDS.all wordB = true := by decide +kernel
/-- pairs -/
def PB : Nat → List Str
  | 0 => ["a", "b"]
  | k + 1 => PB k ++ [(PB k).getD k Str.empty ++ "a", (PB k).getD k Str.empty ++ "b"]
theorem PB_len : ∀ k, (PB k).length = 2 + 2 * k
  | 0 => rfl
  | k + 1 => by
    show (PB k ++ [_, _]).length = _
    rw [List.length_append, PB_len k]
    show 2 + 2 * k + 2 = _
    omega
theorem PB_pre : ∀ k j, ∃ r, PB (k + j) = PB k ++ r
  | k, 0 => ⟨[], by rw [List.append_nil]; rfl⟩
  | k, j + 1 => by
    obtain ⟨r, h⟩ := PB_pre k j
    refine ⟨r ++ [(PB (k + j)).getD (k + j) Str.empty ++ "a", (PB (k + j)).getD (k + j) Str.empty ++ "b"], ?_⟩
    rw [← List.append_assoc, ← h]
    rfl
theorem PB_ok : ((PB 40).take 40).Nodup ∧ ((PB 40).take 40).all wordB = true := by decide +kernel
theorem PB_names {m : Nat} (h : m ≤ 40) : NamesOk ((PB m).take m) m := by
  obtain ⟨r, e⟩ := PB_pre m (40 - m)
  rw [show m + (40 - m) = 40 by omega] at e
  have hl := PB_len m
  have e2 : (PB m).take m = ((PB 40).take 40).take m := by
    rw [List.take_take, Nat.min_eq_left h, e, List.take_append_of_le_length (by omega)]
  have h40 := PB_len 40
  rw [e2]
  refine NamesOk.take PB_ok.1 (fun x hx => wordB_ok (List.all_eq_true.mp PB_ok.2 x hx)) ?_
  rw [List.length_take]; omega
/-- found -/
def fwL (S : List Nat) (p f k : Nat) : List Nat := S.take p ++ (((97 + (f + 7 * k) % 26) :: (if 25 < k then [97 + k / 26] else [])) ++ S.drop p)
theorem fwL_inj {S : List Nat} {p f k j : Nat} (hk : k < 40) (hj : j < 40) (h : fwL S p f k = fwL S p f j) : k = j := by
  unfold fwL at h
  have h1 := List.append_cancel_left h
  have h2 := List.append_cancel_right h1
  obtain ⟨h3, h4⟩ := List.cons.inj h2
  have h5 : (f + 7 * k) % 26 = (f + 7 * j) % 26 := by omega
  by_cases q1 : 25 < k <;> by_cases q2 : 25 < j
  · omega
  · rw [if_pos q1, if_neg q2] at h4; cases h4
  · rw [if_neg q1, if_pos q2] at h4; cases h4
  · omega
theorem fwL_len {S : List Nat} {p f k : Nat} : (fwL S p f k).length = S.length + 1 + if 25 < k then 1 else 0 := by
  unfold fwL
  rw [List.length_append, List.length_append, List.length_take, List.length_drop, List.length_cons]
  split
  · show _ + (0 + 1 + 1 + _) = _; omega
  · show _ + (0 + 1 + _) = _; omega
theorem fwL_az {S : List Nat} {p f k : Nat} (hS : ∀ c ∈ S, 97 ≤ c ∧ c < 123) (hk : k < 40) : ∀ c ∈ fwL S p f k, 97 ≤ c ∧ c < 123 := by
  intro c hc
  unfold fwL at hc
  rcases List.mem_append.mp hc with hc | hc
  · exact hS c (List.mem_of_mem_take hc)
  · rcases List.mem_append.mp hc with hc | hc
    · rcases List.mem_cons.mp hc with rfl | hc
      · omega
      · split at hc
        · rw [List.mem_singleton.mp hc]; omega
        · simp at hc
    · exact hS c (List.mem_of_mem_drop hc)
theorem str_ext {x y : Str} (h : x.cps.toList = y.cps.toList) : x = y := by
  cases x; cases y
  congr 1
  exact Array.toList_inj.mp h
/-- a list of texts told by their letters -/
def Told (fs : List Str) (m : Nat) (F : Nat → List Nat) : Prop := fs.length = m ∧ ∀ (i : Nat) (x : Str), fs[i]? = some x → x.cps.toList = F i
theorem Told.push {fs : List Str} {m : Nat} {F : Nat → List Nat} (h : Told fs m F) {x : Str} (e : x.cps.toList = F m) : Told (fs ++ [x]) (m + 1) F := by
  refine ⟨by rw [List.length_append, h.1]; rfl, fun i y hy => ?_⟩
  rcases Nat.lt_or_ge i fs.length with z | z
  · rw [List.getElem?_append_left z] at hy
    exact h.2 i y hy
  · rw [List.getElem?_append_right z] at hy
    have : i - fs.length = 0 := by
      rcases Nat.eq_zero_or_pos (i - fs.length) with q | q
      · exact q
      · rw [List.getElem?_eq_none (by show 1 ≤ _; omega)] at hy; cases hy
    rw [this] at hy
    obtain rfl := Option.some.inj hy
    rw [show i = m by have := h.1; omega]
    exact e
theorem Told.names {fs : List Str} {m : Nat} {F : Nat → List Nat} (h : Told fs m F) (inj : ∀ i j, i < m → j < m → F i = F j → i = j) (ok : ∀ i, i < m → 1 ≤ (F i).length ∧ (F i).length ≤ 6 ∧ ∀ c ∈ F i, 97 ≤ c ∧ c < 123) : NamesOk fs m := by
  refine ⟨?_, h.1, fun x hx => ?_⟩
  · refine List.pairwise_iff_getElem.mpr fun i j hi hj hij e => ?_
    have hj' : j < m := by rw [← h.1]; exact hj
    have h1 := h.2 i fs[i] (List.getElem?_eq_getElem (by omega))
    have h2 := h.2 j fs[j] (List.getElem?_eq_getElem hj)
    rw [e, h2] at h1
    have := inj j i hj' (by omega) h1
    omega
  · obtain ⟨i, hi, rfl⟩ := List.mem_iff_getElem.mp hx
    have h1 := h.2 i fs[i] (List.getElem?_eq_getElem hi)
    have := ok i (by rw [← h.1]; exact hi)
    rw [← h1] at this
    exact ⟨by rw [← Array.length_toList]; exact this.1, by rw [← Array.length_toList]; exact this.2.1, this.2.2⟩
theorem join_letters : ∀ cs : List Nat, (Txt.join (Str.ofString "") (cs.map fun c => (⟨#[c]⟩ : Str))).cps.toList = cs := by
  intro cs
  have e : Txt.join (Str.ofString "") (cs.map fun c => (⟨#[c]⟩ : Str)) = Str.join (Str.ofString "") (cs.map fun c => (⟨#[c]⟩ : Str)) := PySem.StrLaws.glued_eq_join _ _
  rw [e]
  induction cs with
  | nil => rfl
  | cons c r ih =>
    cases r with
    | nil => rfl
    | cons c2 r2 =>
      show ((#[c] ++ (Str.ofString "").cps) ++ (Str.join (Str.ofString "") ((c2 :: r2).map fun c => (⟨#[c]⟩ : Str))).cps).toList = _
      rw [Array.toList_append, ih (PySem.StrLaws.glued_eq_join _ _)]
      rfl
end Tw
namespace Tw
open PySem PySem.Spec PyProof.Rows L2
theorem op_mulS {X : Cx} : OpR X (binaryOp .Mult) (fun x y H Q => ∃ z n, x = .str z ∧ y = .int n ∧ MulOk z n ∧ Q (.str (Txt.mul z n)) H) := by
  intro pins s σ H x y v u Q I rx ry h
  obtain ⟨z, n, rfl, rfl, hok, q⟩ := h
  obtain ⟨t, rfl⟩ := rx
  obtain ⟨t', rfl⟩ := ry
  exact PySem.SB.mul hok fun t'' k => ⟨.str _, H, I.tok k, ⟨t'', rfl⟩, q⟩
theorem mulok01 {z : Str} {b : Bool} : MulOk z (if b then 1 else 0) := by
  cases b
  · exact ⟨by decide, fun h => absurd (by decide) h, fun h => absurd (by decide) h⟩
  · exact ⟨by decide, fun _ h => by simp at h, fun _ h => by simp at h⟩
theorem mul01 {z : Str} {b : Bool} : Txt.mul z (if b = true then 1 else 0) = if b = true then z else Str.empty := by cases b <;> rfl
theorem Sty.free {bx gr : Addr} {H H' : Hp} (e : Sty bx gr H H') (B : BoxAt H' bx gr) {b : Addr} (h : H' b = none) : H b = none := by
  have hb := B.fresh h
  cases z : H b with
  | none => rfl
  | some o => rw [e.at z hb] at h; cases h
/-- single letters -/
def LtE (v : V) : Prop := ∃ c, v = .str ⟨#[c]⟩ ∧ 97 ≤ c ∧ c < 123
theorem letters_of : ∀ {ys : List V}, (∀ (i : Nat) v, ys[i]? = some v → LtE v) → ∃ cs : List Nat, ys = (cs.map fun c => (⟨#[c]⟩ : Str)).map V.str ∧ cs.length = ys.length ∧ ∀ c ∈ cs, 97 ≤ c ∧ c < 123
  | [], _ => ⟨[], rfl, rfl, fun c h => by simp at h⟩
  | y :: r, h => by
    obtain ⟨c, e, h1, h2⟩ := h 0 y rfl
    obtain ⟨cs, e1, e2, e3⟩ := letters_of (ys := r) fun i v hv => h (i + 1) v hv
    exact ⟨c :: cs, by rw [e, e1]; rfl, by rw [List.length_cons, List.length_cons, e2], fun d hd => by
      rcases List.mem_cons.mp hd with rfl | hd
      · exact ⟨h1, h2⟩
      · exact e3 d hd⟩
theorem sum_letters : ∀ cs : List Nat, ((cs.map fun c => (⟨#[c]⟩ : Str)).map (·.length)).sum = cs.length
  | [] => rfl
  | c :: r => by
    rw [List.map_cons, List.map_cons, List.sum_cons, sum_letters r, List.length_cons]
    show 1 + _ = _
    omega
def spNames : Sp := fun vs H Q _ => ∃ (bx gr : Addr) (m : Nat), vs = [.ref bx, .int m] ∧ BoxAt H bx gr ∧ 1 ≤ m ∧ m ≤ 40 ∧ ∀ r ws H', BoxAt H' bx gr → Sty bx gr H H' → H r = none → H' r = some (.lst (tv ws)) → NamesOk ws m → Q (.ref r) H'
section
variable {P : Program} {w : World} {K : PySem.W.Frag} {mg : Str → Option Value} {base : Heap} {a : Ads}
theorem ok__law_names (T : Txt P K mg a) : FnR P w K mg base CX0 3 a.f__law_names spNames := by
  obtain ⟨fd, F⟩ := T.F__law_names
  have ok__law_take := ok__law_take (P := P) (w := w) (base := base) T
  have ok__law_mixed := ok__law_mixed (P := P) (w := w) (base := base) T
  refine okR F sc__law_names (fun vs H Q E h => ?_) (fun _ _ _ _ _ _ us hl => match us, hl with | [_, _], _ => rfl) (fun cdv A outer s0 H vs Q E hr h => ?_)
  · obtain ⟨bx, gr, m, rfl, _⟩ := h
    rfl
  · obtain ⟨bx, gr, m, rfl, B, m1, m40, q⟩ := h
    have hu := hu_of hr
    refine ⟨_, (pss_cons (ps_set (i := 2) sc__law_names.nd rfl (Or.inr rfl) pe_str)
  (pss_cons (ps_set (i := 3) sc__law_names.nd rfl (Or.inl rfl) (pe_split pe_str pe_str))
  (pss_cons (ps_set (i := 4) sc__law_names.nd rfl (Or.inl rfl) (pe_join pe_str (pe_lc (own := [("_law_k", 10)]) rfl sc__law_names.nd (pi_range1 rfl T.n_range (pa_cons (cR T.g__law_take ok__law_take (hr.mono (by decide)) (by rfl) (pa_cons (pv 0) (pa_cons pe_int pa_nil))) pa_nil)) (blkOk_by (own := [("_law_k", 10)]) (N := N__law_names) (sc := (defScope s__law_names)) (by decide +kernel)) (fun _ _ _ _ _ => (pg_name (i := 10) sc__law_names.nd rfl (Or.inl rfl))) (fun _ _ _ _ _ => pts_nil) (fun _ _ _ _ _ => (pe_ix ix_str (pv 2) (cR T.g__law_take ok__law_take (hr.mono (by decide)) (by rfl) (pa_cons (pv 0) (pa_cons pe_int pa_nil))) (fun _ _ => rfl))))))
  (pss_cons (ps_asg (pe_tup (pa_cons (cR T.g__law_take ok__law_take (hr.mono (by decide)) (by rfl) (pa_cons (pv 0) (pa_cons (pe_op op_add (pe_callB call_len_str (by rfl) T.n_len PySem.boot_len (pa_cons (pv 4) pa_nil)) pe_int) pa_nil))) (pa_cons (cR T.g__law_take ok__law_take (hr.mono (by decide)) (by rfl) (pa_cons (pv 0) (pa_cons pe_int pa_nil))) (pa_cons (cR T.g__law_take ok__law_take (hr.mono (by decide)) (by rfl) (pa_cons (pv 0) (pa_cons pe_int pa_nil))) pa_nil)))) (pg_tup rfl (pgs_cons (pg_name (i := 5) sc__law_names.nd rfl (Or.inl rfl)) (pgs_cons (pg_name (i := 6) sc__law_names.nd rfl (Or.inr rfl)) (pgs_cons (pg_name (i := 7) sc__law_names.nd rfl (Or.inl rfl)) pgs_nil)))))
  (pss_cons (ps_asg (pe_tup (pa_cons (pe_lst pa_nil) (pa_cons (cR T.g__law_mixed ok__law_mixed (hr.mono (by decide)) (by rfl) (pa_cons (pv 0) (pa_cons (pv 3) pa_nil))) (pa_cons (pe_lst (pa_cons pe_str (pa_cons pe_str pa_nil))) pa_nil)))) (pg_tup rfl (pgs_cons (pg_name (i := 8) sc__law_names.nd rfl (Or.inr rfl)) (pgs_cons (pg_name (i := 3) sc__law_names.nd rfl (Or.inl rfl)) (pgs_cons (pg_name (i := 9) sc__law_names.nd rfl (Or.inl rfl)) pgs_nil)))))
  (pss_cons (ps_for PassesOwn.never rfl (pi_range1 rfl T.n_range (pa_cons (pv 1) pa_nil)) (pg_name (i := 10) sc__law_names.nd rfl (Or.inl rfl))
    (pss_cons (ps_set (i := 11) sc__law_names.nd rfl (Or.inl rfl) (pe_op op_add_str (pe_ix ix_str (pv 2) (pe_op op_mod (pe_op op_add (pv 6) (pe_op op_mul pe_int (pv 10))) pe_int) (fun _ _ => rfl)) (pe_op op_mulS (pe_ix ix_str (pv 2) (pe_op op_fdiv (pv 10) pe_int) (fun _ _ => rfl)) (pe_callTy call_int1 (by rfl) T.n_int (by decide +kernel) (pa_cons (pe_cmpR op_gt (pv 10) pe_int (nomark _)) pa_nil)))))
  (pss_cons (ps_expr (pe_bm PySem.F.plainAttrs_list PySem.F.slot_list_append PySem.F.type_list_append mt_append (pv 8) (pa_cons (pe_op op_add_str (pe_op op_add_str (pe_slice sl_str (pv 4) po_none (po_some (pv 5))) (pv 11)) (pe_slice sl_str (pv 4) (po_some (pv 5)) po_none)) pa_nil)))
  (pss_one (ps_expr (pe_bm PySem.F.plainAttrs_list PySem.F.slot_list_extend PySem.F.type_list_extend mt_extend (pv 9) (pa_cons (pe_lst (pa_cons (pe_op op_add_str (pe_ix ix_list (pv 9) (pv 10) (fun _ _ => rfl)) pe_str) (pa_cons (pe_op op_add_str (pe_ix ix_list (pv 9) (pv 10) (fun _ _ => rfl)) pe_str) pa_nil))) pa_nil)))))))
  (pss_cons (ps_set (i := 12) sc__law_names.nd rfl (Or.inr rfl) (pe_join pe_str (pe_lc (own := [("_law_k", 10)]) rfl sc__law_names.nd (pi_range1 rfl T.n_range (pa_cons pe_int pa_nil)) (blkOk_by (own := [("_law_k", 10)]) (N := N__law_names) (sc := (defScope s__law_names)) (by decide +kernel)) (fun _ _ _ _ _ => (pg_name (i := 10) sc__law_names.nd rfl (Or.inl rfl))) (fun _ _ _ _ _ => pts_nil) (fun _ _ _ _ _ => (pe_ix ix_str (pv 2) (cR T.g__law_take ok__law_take (hr.mono (by decide)) (by rfl) (pa_cons (pv 0) (pa_cons pe_int pa_nil))) (fun _ _ => rfl))))))
  (pss_cons (ps_setLc (i := 13) (own := [("_law_k", 10)]) rfl sc__law_names.nd rfl rfl (sw_true rfl rfl rfl (by decide +kernel)) (pi_range1 rfl T.n_range (pa_cons (pe_callB (call_min2 rfl) (by rfl) T.n_min (by decide +kernel) (pa_cons (pv 1) (pa_cons pe_int pa_nil))) pa_nil)) (blkOk_by (own := [("_law_k", 10)]) (N := N__law_names) (sc := (defScope s__law_names)) (by decide +kernel)) (fun _ _ _ _ _ => (pg_name (i := 10) sc__law_names.nd rfl (Or.inl rfl))) (fun _ _ _ _ _ => pts_nil) (fun _ _ _ _ _ => (pe_op op_add_str (pv 12) (pe_ix ix_str (pv 2) (pe_op op_mod (pe_op op_add (pv 6) (pe_op op_mul pe_int (pv 10))) pe_int) (fun _ _ => rfl)))))
  (pss_cons (ps_set (i := 14) sc__law_names.nd rfl (Or.inl rfl) (pe_op op_cat (pe_lc (own := [("_law_word", 16)]) rfl sc__law_names.nd (pi_list (pv 3)) (blkOk_by (own := [("_law_word", 16)]) (N := N__law_names) (sc := (defScope s__law_names)) (by decide +kernel)) (fun _ _ _ _ _ => (pg_name (i := 16) sc__law_names.nd rfl (Or.inl rfl))) (fun _ _ _ _ _ => (pts_one (pt_cmpR (op_notIn_seqK (K := K) rfl) (pv 16) (pv 8) (by rfl)))) (fun _ _ _ _ _ => (pv 16))) (pv 8)))
  (pss_cons (ps_set (i := 15) sc__law_names.nd rfl (Or.inl rfl) (pe_lst (pa_cons (pv 14) (pa_cons (pv 9) (pa_cons (pe_ix ix_list (pe_lst (pa_cons (pv 13) (pa_cons (pv 8) pa_nil))) (pe_callTy call_int1 (by rfl) T.n_int (by decide +kernel) (pa_cons (pe_cmpR op_gt (pv 1) pe_int (nomark _)) pa_nil)) (fun _ _ => rfl)) (pa_cons (pv 8) (pa_cons (pv 8) pa_nil)))))))
  (pss_one (ps_ret (cR T.g__law_mixed ok__law_mixed (hr.mono (by decide)) (by rfl) (pa_cons (pv 0) (pa_cons (pe_slice sl_list (pe_ix ix_list (pv 15) (pv 7) (fun _ _ => rfl)) po_none (po_some (pv 1))) pa_nil))))))))))))))), ?_⟩
    refine ⟨⟨_, rfl⟩, _, _, rfl, rfl, (by decide +kernel), (by decide +kernel), fun wA hwA => ?_⟩
    rw [words_eq]
    have hwb := B.fresh hwA
    have B1 : BoxAt (upd H wA (.lst (WORDS.map V.str))) bx gr := B.upd hwb
    have s1 : Sty bx gr H (upd H wA (.lst (WORDS.map V.str))) := Sty.of (same_upd hwA)
    have hw1 : upd H wA (HO.lst (WORDS.map V.str)) wA = some (.lst (tv WORDS)) := upd_same
    generalize upd H wA (HO.lst (WORDS.map V.str)) = H1 at B1 s1 hw1 ⊢
    -- the stem
    refine ⟨⟨_, rfl⟩, _, rfl, bx, gr, 5, rfl, B1, by decide, by decide, fun r5 H2 r0 r1 B2 s2 => ⟨r5, rfl, by omega, by omega, fun D hD => ?_⟩⟩
    refine lc_drw (bx := bx) (gr := gr) walk_range (fun _ v _ => LtE v) (fun _ _ _ _ _ h => h) (fun _ _ _ _ _ _ h => h) (fun _ _ => True.intro) (by omega) B2 hD (fun i v H3 H3' hi B3 s3 _ y N n => ?_) (fun ys H3 B3 s3 hl hys hD3 => ?_)
    · obtain ⟨rfl, rfl⟩ := y
      refine ⟨rfl, _, rfl, _, rfl, bx, gr, 26, rfl, B3, by decide, by decide, fun r H4 r0 r1 B4 s4 => ?_⟩
      exact ⟨AZ, r, 97 + r.toNat, rfl, rfl, (by rw [show AZ.length = 26 from az_size]; decide), az_atI r0 r1, n _ _ B4 s4 ⟨_, rfl, by omega, by omega⟩⟩
    · obtain ⟨cs, rfl, hcl, hcs⟩ := letters_of hys
      have hcl5 : cs.length ≤ 4 := by omega
      refine ⟨_, D, cs.map (fun c => (⟨#[c]⟩ : Str)), rfl, rfl, .inl (SqL.of hD3), ?_, ?_⟩
      · rw [sum_letters, List.length_map]
        show cs.length + cs.length * 0 ≤ _
        omega
      generalize hst : Txt.join (Str.ofString "") (cs.map fun c => (⟨#[c]⟩ : Str)) = st
      have hstl : st.cps.toList = cs := by rw [← hst]; exact join_letters cs
      have hstn : st.length = cs.length := by rw [← hstl]; exact (Array.length_toList).symm
      have sz : (1000 : Nat) ≤ sizeLine := by decide
      have s30 := (s1.trans s2).trans s3
      have hw3 := (s2.trans s3).at hw1 hwb
      -- at, first, form
      refine ⟨_, rfl, _, rfl, st, rfl, by omega, _, _, rfl, rfl, bx, gr, _, rfl, B3, by omega, by omega, fun a1 H4 a0 a1' B4 s4 => ?_⟩
      refine ⟨_, rfl, bx, gr, 26, rfl, B4, by decide, by decide, fun f1 H5 f0 f1' B5 s5 => ?_⟩
      refine ⟨_, rfl, bx, gr, 5, rfl, B5, by decide, by decide, fun g1 H6 g0 g1' B6 s6 => ?_⟩
      obtain ⟨p, rfl⟩ : ∃ p : Nat, a1 = p := ⟨a1.toNat, by omega⟩
      obtain ⟨f, rfl⟩ : ∃ f : Nat, f1 = f := ⟨f1.toNat, by omega⟩
      obtain ⟨g, rfl⟩ : ∃ g : Nat, g1 = g := ⟨g1.toNat, by omega⟩
      refine ⟨by show 3 ≤ sizeLine; decide, fun t1 ht1 => ⟨t1, _, rfl, SqT.of upd_same, rfl, _, _, rfl, _, _, rfl, _, _, rfl, rfl, ?_⟩⟩
      have s7' := same_upd (o := HO.tup [V.int (p : Int), .int (f : Int), .int (g : Int)]) ht1
      have B7 := B6.mono s7'
      have s70 := (((s30.trans s4).trans s5).trans s6).trans (Sty.of s7')
      have hw7 := s7' _ _ (((s4.trans s5).trans s6).at hw3 hwb)
      generalize upd H6 t1 (HO.tup [V.int (p : Int), .int (f : Int), .int (g : Int)]) = H7 at s7' B7 s70 hw7 ⊢
      -- found, words, pairs
      refine ⟨by show 0 ≤ sizeLine; decide, fun fA hfA => ?_⟩
      have hfb := B7.fresh hfA
      have hfH := s70.free B7 hfA
      refine ⟨_, rfl, _, rfl, bx, gr, wA, WORDS.map V.str, rfl, B7.upd hfb, hwb, .inl (same_upd hfA _ _ hw7), by decide, fun wB H8 wy B8 s8 hwB hw8 pm => ?_⟩
      obtain ⟨ws, rfl, pw⟩ := perm_map_inv pm
      have hf8 := s8.at upd_same hfb
      have hwBf : wB ≠ fA := fun z => by rw [z, upd_same] at hwB; cases hwB
      have s80 := (s70.upd (o := HO.lst []) hfH).trans s8
      have hwB7 : H7 wB = none := by rw [upd_ne hwBf] at hwB; exact hwB
      have hwBb := B7.fresh hwB7
      refine ⟨by show 2 ≤ sizeLine; decide, fun pA hpA => ⟨by show 3 ≤ sizeLine; decide, fun t2 ht2 => ⟨t2, _, rfl, SqT.of upd_same, rfl, _, _, rfl, _, _, rfl, _, _, rfl, rfl, ?_⟩⟩⟩
      have e9 := Same.upd' (o := HO.tup [V.ref fA, .ref wB, .ref pA]) (same_upd (o := HO.lst [V.str "a", .str "b"]) hpA) ht2
      have B9 := B8.mono e9
      have s90 := s80.trans (Sty.of e9)
      have hf9 := e9 _ _ hf8
      have hw9 := e9 _ _ hw8
      have hpt : pA ≠ t2 := fun z => by rw [← z, upd_same] at ht2; cases ht2
      have hp9 : upd (upd H8 pA (HO.lst [V.str "a", .str "b"])) t2 (HO.tup [V.ref fA, .ref wB, .ref pA]) pA = some (.lst (tv (PB 0))) := by rw [upd_ne hpt]; exact upd_same
      have hpb := B8.fresh hpA
      have hpH := s80.free B8 hpA
      have hfp : fA ≠ pA := fun z => by rw [z, hpA] at hf8; cases hf8
      have hwp : wB ≠ pA := fun z => by rw [z, hpA] at hw8; cases hw8
      generalize upd (upd H8 pA (HO.lst [V.str "a", .str "b"])) t2 (HO.tup [V.ref fA, .ref wB, .ref pA]) = H9 at e9 B9 s90 hf9 hw9 hp9 ⊢
      -- the loop
      refine ⟨_, rfl, (m : Int), rfl, by omega, by omega, ?_⟩
      rw [Int.toNat_natCast]
      refine for_range (fun i σ H' => BoxAt H' bx gr ∧ Sty bx gr H H' ∧ H' wB = some (.lst (tv ws)) ∧ H' pA = some (.lst (tv (PB i))) ∧ (∃ fs, H' fA = some (.lst (tv fs)) ∧ Told fs i (fwL cs p f)) ∧ ∃ (u1 u2 : Option V), σ = [some (.ref bx), some (.int m), some (.str AZ), some (.ref wB), some (.str st), some (.int p), some (.int f), some (.int g), some (.ref fA), some (.ref pA), u1, u2, none, none, none, none, none])
        ⟨B9, s90, hw9, hp9, ⟨[], hf9, rfl, fun i x h => by simp at h⟩, none, none, rfl⟩ ?_ ?_
      · rintro i σ H10 hi ⟨B10, s10, hw10, hp10, ⟨fs, hf10, told⟩, u1, u2, rfl⟩
        rw [Int.zero_add]
        have az26 : AZ.length ≤ sizeLine := by rw [show AZ.length = 26 from az_size]; decide
        have hm1 : (0 : Int) ≤ ((f : Int) + 7 * (i : Int)) % 26 ∧ ((f : Int) + 7 * (i : Int)) % 26 < 26 := ⟨Int.emod_nonneg _ (by decide), Int.emod_lt_of_pos _ (by decide)⟩
        have hd1 : (0 : Int) ≤ (i : Int) / 26 ∧ (i : Int) / 26 < 26 := by omega
        refine ⟨_, rfl, _, rfl, _, rfl, _, _, rfl, rfl, .inl ⟨by decide, by decide⟩, _, _, rfl, rfl, _, _, rfl, rfl, (show (0 : Int) < 26 by decide), AZ, _, 97 + (((f : Int) + 7 * (i : Int)) % 26).toNat, rfl, rfl, az26, az_atI hm1.1 hm1.2, ?_⟩
        refine ⟨_, rfl, _, rfl, _, _, rfl, rfl, ⟨by decide, by decide⟩, AZ, _, 97 + ((i : Int) / 26).toNat, rfl, rfl, az26, az_atI hd1.1 hd1.2, _, rfl, _, _, rfl, rfl, .inr ⟨_, rfl, ?_⟩⟩
        refine ⟨_, _, rfl, rfl, mulok01, ?_⟩
        have elt : ((⟨#[97 + (((f : Int) + 7 * (i : Int)) % 26).toNat]⟩ : Str) ++ Txt.mul ⟨#[97 + ((i : Int) / 26).toNat]⟩ (if decide ((25 : Int) < (i : Int)) = true then 1 else 0)).cps.toList = (97 + (f + 7 * i) % 26) :: (if 25 < i then [97 + i / 26] else []) := by
          have e1 : (((f : Int) + 7 * (i : Int)) % 26).toNat = (f + 7 * i) % 26 := by omega
          have e2 : ((i : Int) / 26).toNat = i / 26 := by omega
          rw [e1, e2]
          by_cases h : 25 < i
          · rw [if_pos (decide_eq_true (by omega)), if_pos h]; rfl
          · rw [if_neg (fun z => h (by have := of_decide_eq_true z; omega)), if_neg h]; rfl
        have hll : ((⟨#[97 + (((f : Int) + 7 * (i : Int)) % 26).toNat]⟩ : Str) ++ Txt.mul ⟨#[97 + ((i : Int) / 26).toNat]⟩ (if decide ((25 : Int) < (i : Int)) = true then 1 else 0)).length ≤ 2 := by
          have := congrArg List.length elt
          rw [Array.length_toList, List.length_cons] at this
          show Array.size _ ≤ 2
          rw [this]
          split
          · exact Nat.le_refl _
          · exact Nat.le_succ _
        refine ⟨_, _, rfl, rfl, ?_, ?_⟩
        · have h1 : (Txt.mul ⟨#[97 + ((i : Int) / 26).toNat]⟩ (if decide ((25 : Int) < (i : Int)) = true then 1 else 0)).length ≤ 1 := by
            rw [mul01]
            split
            · exact Nat.le_refl 1
            · exact Nat.zero_le 1
          show 1 + _ ≤ _
          omega
        generalize (⟨#[97 + (((f : Int) + 7 * (i : Int)) % 26).toNat]⟩ : Str) ++ Txt.mul ⟨#[97 + ((i : Int) / 26).toNat]⟩ (if decide ((25 : Int) < (i : Int)) = true then 1 else 0) = lt at elt hll ⊢
        have cut1 : (cutS st none (some (p : Int))).cps.toList = cs.take p := by
          unfold cutS
          show ((st.cps.toList.drop 0).take (HT.sIx st.length st.length (some (p : Int)) - 0)).toArray.toList = _
          rw [List.drop_zero, Nat.sub_zero, hstl]
          have : HT.sIx st.length st.length (some (p : Int)) = p := by
            unfold HT.sIx
            simp only []
            split
            · omega
            · rw [Int.toNat_natCast]; omega
          rw [this]
        have cut2 : (cutS st (some (p : Int)) none).cps.toList = cs.drop p := by
          unfold cutS
          have : HT.sIx st.length 0 (some (p : Int)) = p := by
            unfold HT.sIx
            simp only []
            split
            · omega
            · rw [Int.toNat_natCast]; omega
          show ((st.cps.toList.drop (HT.sIx st.length 0 (some (p : Int)))).take (st.length - HT.sIx st.length 0 (some (p : Int)))).toArray.toList = _
          rw [this, hstl]
          show (cs.drop p).take _ = _
          rw [List.take_of_length_le (by rw [List.length_drop]; omega)]
        have l1 := cutS_length st none (some (p : Int))
        have l2 := cutS_length st (some (p : Int)) none
        have hfsl : fs.length = i := told.1
        -- found.append
        refine ⟨_, rfl, .inl ⟨rfl, _, SqL.of hf10⟩, _, rfl, _, rfl, _, rfl, st, rfl, by omega, _, rfl, _, _, rfl, rfl, by omega, ?_⟩
        refine ⟨_, rfl, _, rfl, _, rfl, st, rfl, by omega, _, _, rfl, rfl, ?_, ?_⟩
        · have : ((cutS st none (some (p : Int))) ++ lt).length = (cutS st none (some (p : Int))).length + lt.length := Array.size_append
          omega
        refine ⟨fA, tv fs, _, rfl, rfl, hf10, by rw [tv_length]; exact sz_small (by omega), ?_⟩
        have ew : (cutS st none (some (p : Int)) ++ lt ++ cutS st (some (p : Int)) none).cps.toList = fwL cs p f i := by
          show (((cutS st none (some (p : Int))).cps ++ lt.cps) ++ (cutS st (some (p : Int)) none).cps).toList = _
          rw [Array.toList_append, Array.toList_append, cut1, elt, cut2, List.append_assoc]
          rfl
        have told' := told.push ew
        generalize cutS st none (some (p : Int)) ++ lt ++ cutS st (some (p : Int)) none = wd at ew told' ⊢
        have hf11 : upd H10 fA (HO.lst (tv fs ++ [V.str wd])) fA = some (.lst (tv (fs ++ [wd]))) := by
          rw [upd_same]; unfold tv; rw [List.map_append]; rfl
        have hp11 : upd H10 fA (HO.lst (tv fs ++ [V.str wd])) pA = some (.lst (tv (PB i))) := by rw [upd_ne (Ne.symm hfp)]; exact hp10
        have hw11 : upd H10 fA (HO.lst (tv fs ++ [V.str wd])) wB = some (.lst (tv ws)) := by rw [upd_ne hwBf]; exact hw10
        have B11 : BoxAt (upd H10 fA (HO.lst (tv fs ++ [V.str wd]))) bx gr := B10.upd hfb
        have s11 := s10.upd (o := HO.lst (tv fs ++ [V.str wd])) hfH
        generalize upd H10 fA (HO.lst (tv fs ++ [V.str wd])) = H11 at hf11 hp11 hw11 B11 s11 ⊢
        -- pairs.extend
        have hPl := PB_len i
        obtain ⟨y, hy⟩ : ∃ y, (PB i)[i]? = some y := ⟨_, List.getElem?_eq_getElem (by omega)⟩
        have hyl : y.length ≤ 6 := by
          obtain ⟨r, e⟩ := PB_pre i (40 - i)
          rw [show i + (40 - i) = 40 by omega] at e
          have : ((PB 40).take 40)[i]? = some y := by
            rw [List.getElem?_take, if_pos (by omega), e, List.getElem?_append_left (by omega)]; exact hy
          exact (wordB_ok (List.all_eq_true.mp PB_ok.2 y (List.mem_of_getElem? this))).hi
        refine ⟨_, rfl, .inl ⟨rfl, _, SqL.of hp11⟩, _, rfl, _, rfl, pA, _, _, _, rfl, rfl, SqL.of hp11, atI_nat (tv_at hy), _, _, rfl, rfl, (by show _ + 1 ≤ _; omega), _, rfl, _, rfl, pA, _, _, _, rfl, rfl, SqL.of hp11, atI_nat (tv_at hy), _, _, rfl, rfl, (by show _ + 1 ≤ _; omega), by show 2 ≤ sizeLine; decide, fun q hq => ?_⟩
        have hqp : pA ≠ q := fun z => by rw [← z, hp11] at hq; cases hq
        have hqf : fA ≠ q := fun z => by rw [← z, hf11] at hq; cases hq
        have hqw : wB ≠ q := fun z => by rw [← z, hw11] at hq; cases hq
        refine ⟨pA, q, _, _, rfl, rfl, by rw [upd_ne hqp]; exact hp11, upd_same, by rw [tv_length]; show _ + 2 ≤ _; omega, ?_⟩
        refine ⟨(B11.upd (B11.fresh hq)).upd hpb, (s11.upd (s11.free B11 hq)).upd hpH, by rw [upd_ne hwp, upd_ne hqw]; exact hw11, ?_, ⟨fs ++ [wd], by rw [upd_ne hfp, upd_ne hqf]; exact hf11, told'⟩, _, _, rfl⟩
        rw [upd_same]
        have eg : (PB i).getD i Str.empty = y := by rw [List.getD_eq_getElem?_getD, hy]; rfl
        show _ = some (HO.lst (tv (PB i ++ [(PB i).getD i Str.empty ++ "a", (PB i).getD i Str.empty ++ "b"])))
        rw [eg]
        unfold tv
        rw [List.map_append]; rfl
      · rintro σ H10 ⟨B10, s10, hw10, hp10, ⟨fs, hf10, told⟩, u1, u2, rfl⟩
        have hfound : NamesOk fs m := told.names (fun i j hi hj e => fwL_inj (by omega) (by omega) e) fun i hi => ⟨by rw [fwL_len]; omega, by rw [fwL_len]; split <;> omega, fwL_az hcs (by omega)⟩
        -- long
        refine ⟨⟨_, rfl⟩, 5, rfl, by decide, by decide, fun D2 hD2 => ?_⟩
        refine lc_drw (bx := bx) (gr := gr) walk_range (fun _ v _ => LtE v) (fun _ _ _ _ _ h => h) (fun _ _ _ _ _ _ h => h) (fun _ _ => True.intro) (by decide) B10 hD2 (fun i v H3 H3' hi B3 s3 _ y N n => ?_) (fun ys H11 B11 s11 hl2 hys2 hD11 => ?_)
        · obtain ⟨rfl, rfl⟩ := y
          refine ⟨rfl, _, rfl, _, rfl, bx, gr, 25, rfl, B3, by decide, by decide, fun r H4 r0 r1 B4 s4 => ?_⟩
          exact ⟨AZ, r, 97 + r.toNat, rfl, rfl, (by rw [show AZ.length = 26 from az_size]; decide), az_atI r0 (by omega), n _ _ B4 s4 ⟨_, rfl, by omega, by omega⟩⟩
        · obtain ⟨ls, rfl, hll, hls⟩ := letters_of hys2
          have hl5 : ls.length = 5 := by omega
          refine ⟨_, D2, ls.map (fun c => (⟨#[c]⟩ : Str)), rfl, rfl, .inl (SqL.of hD11), ?_, ?_⟩
          · rw [sum_letters, List.length_map]
            show ls.length + ls.length * 0 ≤ _
            omega
          generalize hlg : Txt.join (Str.ofString "") (ls.map fun c => (⟨#[c]⟩ : Str)) = lg
          have hlgl : lg.cps.toList = ls := by rw [← hlg]; exact join_letters ls
          have hlgn : lg.length = 5 := by rw [← hl5, ← hlgl]; exact (Array.length_toList).symm
          have hw11 := s11.at hw10 hwBb
          have hp11 := s11.at hp10 hpb
          have hf11 := s11.at hf10 hfb
          have s110 := s10.trans s11
          have az26 : AZ.length ≤ sizeLine := by rw [show AZ.length = 26 from az_size]; decide
          -- ends
          refine ⟨_, rfl, _, _, rfl, _, rfl, ?_, ?_, ?_⟩
          · split <;> omega
          · split <;> omega
          obtain ⟨ne, hne, hne26, hneM⟩ : ∃ ne : Nat, (if (26 : Int) < (m : Int) then (26 : Int) else (m : Int)).toNat = ne ∧ ne ≤ 26 ∧ (m ≤ 26 → ne = m) := by
            refine ⟨_, rfl, ?_, fun h => ?_⟩
            · split <;> omega
            · rw [if_neg (by omega)]; omega
          rw [hne]
          refine fun D3 hD3 => ?_
          refine lc_it walk_range (fun i H' => Same H11 H' ∧ ∃ es, H' D3 = some (.lst (tv es)) ∧ Told es i (fun k => ls ++ [97 + (f + 7 * k) % 26])) ⟨same_upd hD3, [], upd_same, rfl, fun i x h => by simp at h⟩ (fun _ _ _ _ => True.intro) (fun i v H12 H12' hi e y => ?_) (fun H12 e => ?_)
          · obtain ⟨e12, es, hes, tes⟩ := e
            obtain ⟨rfl, rfl⟩ := y
            rw [show (fun i : Nat => V.int (0 + (i : Int))) i = V.int (i : Int) from by show V.int (0 + (i : Int)) = _; rw [Int.zero_add]]
            have hm1 : (0 : Int) ≤ ((f : Int) + 7 * (i : Int)) % 26 ∧ ((f : Int) + 7 * (i : Int)) % 26 < 26 := ⟨Int.emod_nonneg _ (by decide), Int.emod_lt_of_pos _ (by decide)⟩
            refine ⟨rfl, _, rfl, _, rfl, _, rfl, _, rfl, _, _, rfl, rfl, .inl ⟨by decide, by decide⟩, _, _, rfl, rfl, _, _, rfl, rfl, (show (0 : Int) < 26 by decide), AZ, _, 97 + (((f : Int) + 7 * (i : Int)) % 26).toNat, rfl, rfl, az26, az_atI hm1.1 hm1.2, _, _, rfl, rfl, ?_, ?_⟩
            · show _ + 1 ≤ _; omega
            have hesl : es.length = i := tes.1
            refine ⟨_, hes, by rw [tv_length]; exact sz_small (by omega), fun b o h => ?_, es ++ [lg ++ ⟨#[97 + (((f : Int) + 7 * (i : Int)) % 26).toNat]⟩], ?_, tes.push ?_⟩
            · rw [upd_ne (ne_of_none h hD3)]; exact e12 _ _ h
            · rw [upd_same]; unfold tv; rw [List.map_append]; rfl
            · show (lg.cps ++ #[_]).toList = _
              rw [Array.toList_append, hlgl, show (((f : Int) + 7 * (i : Int)) % 26).toNat = (f + 7 * i) % 26 by omega]
          · obtain ⟨e12, es, hes, tes⟩ := e
            have hends : NamesOk es ne := tes.names (fun i j hi hj e => by
                have := List.append_cancel_left e
                have := (List.cons.inj this).1
                omega) fun i hi => ⟨by rw [List.length_append, hl5]; show 1 ≤ 5 + 1; decide, by rw [List.length_append, hl5]; show 5 + 1 ≤ 6; decide, fun c hc => by
                  rcases List.mem_append.mp hc with hc | hc
                  · exact hls c hc
                  · rw [List.mem_singleton.mp hc]; omega⟩
            -- odd
            have hw12 := e12 _ _ hw11
            have hp12 := e12 _ _ hp11
            have hf12 := e12 _ _ hf11
            have wl : ws.length = 16 := by rw [← pw.length_eq]; rfl
            have fl : fs.length = m := hfound.len
            refine ⟨_, rfl, wB, rfl, ⟨_, SqL.of hw12⟩, fun D4 hD4 => lc_sel (l := ws) (mk := V.str) (fun x => !decide (x ∈ fs)) V.str walk_list (fun H' e => SqL.of (e _ _ hw12)) (by omega) hD4 (fun x hx H13 e N1 N2 n => ?_) (fun H13 e13 hd13 => ?_)⟩
            · refine ⟨rfl, _, rfl, _, rfl, fA, _, rfl, .inl (SqL.of (e _ _ hf12)), rfl, tv_flat _, _, rfl, ?_⟩
              show if (!inV (V.str x) (tv fs)) = true then _ else _
              rw [tv_in]
              refine ite2 (fun hc => ?_) (fun hc => ?_)
              · exact ⟨_, rfl, (n H13 fun _ _ z => z).2 hc⟩
              · exact (n H13 fun _ _ z => z).1 (Bool.eq_false_iff.mpr hc)
            · have hf13 := e13 _ _ hf12
              have lfo : ((ws.filter fun x => !decide (x ∈ fs)).map V.str).length ≤ 16 := by rw [List.length_map, ← wl]; exact List.length_filter_le _ _
              refine ⟨_, rfl, D4, fA, _, _, rfl, rfl, hd13, hf13, (by rw [tv_length]; omega), fun oA hoA => ?_⟩
              have eo : (ws.filter fun x => !decide (x ∈ fs)).map V.str ++ tv fs = tv ((ws.filter fun x => !decide (x ∈ fs)) ++ fs) := by unfold tv; rw [List.map_append]
              rw [eo]
              have hodd : NamesOk (((ws.filter fun x => !decide (x ∈ fs)) ++ fs).take m) m := by
                refine NamesOk.take ?_ (fun x hx => ?_) (by rw [List.length_append]; omega)
                · rw [List.nodup_append]
                  refine ⟨(pw.nodup_iff.mp words_ok.1).sublist List.filter_sublist, hfound.nd, fun x hx y hy e => ?_⟩
                  have := (List.mem_filter.mp hx).2
                  rw [Bool.not_eq_true', decide_eq_false_iff_not] at this
                  exact this (by rw [e]; exact hy)
                · rcases List.mem_append.mp hx with hx | hx
                  · exact wordB_ok (List.all_eq_true.mp words_ok.2 x (pw.mem_iff.mpr (List.mem_filter.mp hx).1))
                  · exact hfound.word x hx
              have e14 := same_upd (o := HO.lst (tv ((ws.filter fun x => !decide (x ∈ fs)) ++ fs))) hoA
              have ho14 : upd H13 oA (HO.lst (tv ((ws.filter fun x => !decide (x ∈ fs)) ++ fs))) oA = some (.lst (tv ((ws.filter fun x => !decide (x ∈ fs)) ++ fs))) := upd_same
              generalize upd H13 oA (HO.lst (tv ((ws.filter fun x => !decide (x ∈ fs)) ++ fs))) = H14 at e14 ho14 ⊢
              have e1114 := (e12.trans e13).trans e14
              have B14 := B11.mono e1114
              have s14 := s110.trans (Sty.of e1114)
              have hp14 := e1114 _ _ hp11
              have hf14 := e1114 _ _ hf11
              have he14 := (e13.trans e14) _ _ hes
              -- some
              refine ⟨_, rfl, _, rfl, _, rfl, _, rfl, by show 2 ≤ sizeLine; decide, fun zA hzA => ?_⟩
              have e15 := same_upd (o := HO.lst [V.ref D3, .ref fA]) hzA
              have hz15 : upd H14 zA (HO.lst [V.ref D3, .ref fA]) zA = some (.lst [V.ref D3, .ref fA]) := upd_same
              generalize upd H14 zA (HO.lst [V.ref D3, .ref fA]) = H15 at e15 hz15 ⊢
              -- the third of them
              obtain ⟨eA, el, hel, hE15, hEok⟩ : ∃ (eA : Addr) (el : List Str), ([V.ref D3, .ref fA] : List V)[if decide ((26 : Int) < (m : Int)) = true then 1 else 0]? = some (.ref eA) ∧ H15 eA = some (.lst (tv el)) ∧ NamesOk (el.take m) m := by
                by_cases h : m ≤ 26
                · rw [if_neg (by rw [decide_eq_true_iff]; omega)]
                  exact ⟨D3, es, rfl, e15 _ _ he14, by rw [← hneM h] at *; rw [List.take_of_length_le (by rw [hends.len]; exact Nat.le_refl _)]; exact hends⟩
                · rw [if_pos (by rw [decide_eq_true_iff]; omega)]
                  exact ⟨fA, fs, rfl, e15 _ _ hf14, by rw [List.take_of_length_le (by rw [hfound.len]; exact Nat.le_refl _)]; exact hfound⟩
              have hcast : (if decide ((26 : Int) < (m : Int)) = true then (1 : Int) else 0) = ((if decide ((26 : Int) < (m : Int)) = true then 1 else 0 : Nat) : Int) := by split <;> rfl
              refine ⟨_, rfl, _, _, rfl, rfl, .inr ⟨_, rfl, zA, _, _, _, rfl, rfl, SqL.of hz15, by rw [hcast]; exact atI_nat hel, ?_⟩⟩
              refine ⟨_, rfl, _, rfl, by show 5 ≤ sizeLine; decide, fun mA hmA => ?_⟩
              have e16 := e15.trans (same_upd (o := HO.lst [V.ref oA, .ref pA, .ref eA, .ref fA, .ref fA]) hmA)
              have e16' := same_upd (o := HO.lst [V.ref oA, .ref pA, .ref eA, .ref fA, .ref fA]) hmA
              have hm16 : upd H15 mA (HO.lst [V.ref oA, .ref pA, .ref eA, .ref fA, .ref fA]) mA = some (.lst [V.ref oA, .ref pA, .ref eA, .ref fA, .ref fA]) := upd_same
              generalize upd H15 mA (HO.lst [V.ref oA, .ref pA, .ref eA, .ref fA, .ref fA]) = H16 at e16 e16' hm16 ⊢
              -- the chosen
              obtain ⟨cA, cl, hcl', hc16, hcok⟩ : ∃ (cA : Addr) (cl : List Str), ([V.ref oA, .ref pA, .ref eA, .ref fA, .ref fA] : List V)[g]? = some (.ref cA) ∧ H16 cA = some (.lst (tv cl)) ∧ NamesOk (cl.take m) m := by
                have hff : NamesOk (fs.take m) m := by rw [List.take_of_length_le (by rw [hfound.len]; exact Nat.le_refl _)]; exact hfound
                have hg5 : g < 5 := by omega
                match g, hg5 with
                | 0, _ => exact ⟨oA, _, rfl, e16 _ _ ho14, hodd⟩
                | 1, _ => exact ⟨pA, _, rfl, e16 _ _ hp14, PB_names m40⟩
                | 2, _ => exact ⟨eA, _, rfl, e16' _ _ hE15, hEok⟩
                | 3, _ => exact ⟨fA, _, rfl, e16 _ _ hf14, hff⟩
                | 4, _ => exact ⟨fA, _, rfl, e16 _ _ hf14, hff⟩
                | n + 5, h => omega
              refine ⟨_, rfl, _, rfl, _, rfl, mA, _, _, _, rfl, rfl, SqL.of hm16, atI_nat hcl', _, rfl, _, rfl, cA, _, rfl, SqL.of hc16, fun nA hnA => ?_⟩
              rw [cut_take, show (tv cl).take m = tv (cl.take m) from by unfold tv; rw [List.map_take]]
              have B16 := B14.mono e16
              have hnb := B16.fresh hnA
              have s17 := (s14.trans (Sty.of e16)).trans (Sty.of (same_upd (o := HO.lst (tv (cl.take m))) hnA))
              refine ⟨bx, gr, nA, tv (cl.take m), rfl, B16.upd hnb, hnb, .inl upd_same, by rw [tv_length, hcok.len]; omega, fun r H18 ys B18 s18 hr18 h18 pm18 => ?_⟩
              obtain ⟨ws', rfl, pw'⟩ := perm_map_inv pm18
              have hrH : H r = none := s17.free (B16.upd hnb) hr18
              exact q r ws' H18 B18 (s17.trans s18) hrH h18 (hcok.perm pw')
end
end Tw
namespace Tw
open PySem PySem.Spec PyProof.Rows L2
def spLTree : Sp := fun vs H Q _ => ∃ (bx gr : Addr) (most : Int), vs = [.ref bx, .int most] ∧ BoxAt H bx gr ∧ 1 ≤ most ∧ most ≤ 40 ∧
  ∀ (D : TD) r aP aE H', BoxAt H' bx gr → Sty bx gr H H' → Off bx gr H' r = some (.tup [.ref aP, .ref aE]) → Off bx gr H' aP = some (.tup (tv D.ps)) → PairsAt (Off bx gr H') aE D.es → Q (.ref r) H'
section
variable {P : Program} {w : World} {K : PySem.W.Frag} {mg : Str → Option Value} {base : Heap} {a : Ads}
theorem ok__law_tree (T : Txt P K mg a) : FnR P w K mg base CX0 4 a.f__law_tree spLTree := by
  obtain ⟨fd, F⟩ := T.F__law_tree
  have ok__law_take := ok__law_take (P := P) (w := w) (base := base) T
  have ok__law_mixed := ok__law_mixed (P := P) (w := w) (base := base) T
  have ok__law_names := ok__law_names (P := P) (w := w) (base := base) T
  refine okR F sc__law_tree (fun vs H Q E h => ?_) (fun _ _ _ _ _ _ us hl => match us, hl with | [_, _], _ => rfl) (fun cdv A outer s0 H vs Q E hr h => ?_)
  · obtain ⟨bx, gr, most, rfl, _⟩ := h
    rfl
  · obtain ⟨bx, gr, most, rfl, B, m1, m40, q⟩ := h
    have hu := hu_of hr
    refine ⟨_, (pss_cons (ps_par (i := 2) (j := 3) rfl sc__law_tree.nd rfl rfl (by decide) rfl rfl (pa_cons (pe_op op_add pe_int (cR T.g__law_take ok__law_take (hr.mono (by decide)) (by rfl) (pa_cons (pv 0) (pa_cons (pv 1) pa_nil)))) (pa_cons (cR T.g__law_take ok__law_take (hr.mono (by decide)) (by rfl) (pa_cons (pv 0) (pa_cons pe_int pa_nil))) pa_nil)) (by rfl))
  (pss_cons (ps_par (i := 4) (j := 5) rfl sc__law_tree.nd rfl rfl (by decide) rfl rfl (pa_cons (cR T.g__law_names ok__law_names (hr.mono (by decide)) (by rfl) (pa_cons (pv 0) (pa_cons (pv 2) pa_nil))) (pa_cons (pe_lst pa_nil) pa_nil)) (by rfl))
  (pss_cons (ps_for PassesOwn.never rfl (pi_range2 rfl T.n_range (pa_cons pe_int (pa_cons (pv 2) pa_nil))) (pg_name (i := 6) sc__law_tree.nd rfl (Or.inl rfl))
    (pss_cons (ps_set (i := 7) sc__law_tree.nd rfl (Or.inl rfl) (pe_ix ix_list (pe_lst (pa_cons (cR T.g__law_take ok__law_take (hr.mono (by decide)) (by rfl) (pa_cons (pv 0) (pa_cons (pv 6) pa_nil))) (pa_cons (cR T.g__law_take ok__law_take (hr.mono (by decide)) (by rfl) (pa_cons (pv 0) (pa_cons (pv 6) pa_nil))) (pa_cons (pe_op op_sub (pv 6) pe_int) (pa_cons pe_int (pa_cons (pe_callB (call_max2 rfl) (by rfl) T.n_max (by decide +kernel) (pa_cons pe_int (pa_cons (pe_op op_sub (pe_op op_sub (pv 6) pe_int) (cR T.g__law_take ok__law_take (hr.mono (by decide)) (by rfl) (pa_cons (pv 0) (pa_cons pe_int pa_nil)))) pa_nil))) pa_nil)))))) (pv 3) (fun _ _ => rfl)))
  (pss_one (ps_expr (pe_bm PySem.F.plainAttrs_list PySem.F.slot_list_append PySem.F.type_list_append mt_append (pv 5) (pa_cons (pe_ix ix_list (pe_lst (pa_cons (pe_tup (pa_cons (pe_ix ix_list (pv 4) (pv 6) (fun _ _ => rfl)) (pa_cons (pe_ix ix_list (pv 4) (pv 7) (fun _ _ => rfl)) pa_nil))) (pa_cons (pe_tup (pa_cons (pe_ix ix_list (pv 4) (pv 7) (fun _ _ => rfl)) (pa_cons (pe_ix ix_list (pv 4) (pv 6) (fun _ _ => rfl)) pa_nil))) pa_nil))) (cR T.g__law_take ok__law_take (hr.mono (by decide)) (by rfl) (pa_cons (pv 0) (pa_cons pe_int pa_nil))) (fun _ _ => rfl)) pa_nil))))))
  (pss_one (ps_ret (pe_tup (pa_cons (pe_callTy call_tuple_of (by rfl) T.n_tuple (by decide +kernel) (pa_cons (cR T.g__law_mixed ok__law_mixed (hr.mono (by decide)) (by rfl) (pa_cons (pv 0) (pa_cons (pv 4) pa_nil))) pa_nil)) (pa_cons (pe_callTy call_tuple_of (by rfl) T.n_tuple (by decide +kernel) (pa_cons (cR T.g__law_mixed ok__law_mixed (hr.mono (by decide)) (by rfl) (pa_cons (pv 0) (pa_cons (pv 5) pa_nil))) pa_nil)) pa_nil)))))))), ?_⟩
    refine ⟨_, rfl, _, rfl, bx, gr, most, rfl, B, by omega, by omega, fun r1 H1 r10 r11 B1 s1 => ⟨_, _, rfl, rfl, ?_⟩⟩
    refine ⟨_, rfl, bx, gr, 5, rfl, B1, by decide, by decide, fun g1 H2 g10 g11 B2 s2 => ⟨_, _, rfl, ?_⟩⟩
    obtain ⟨m, hm⟩ : ∃ m : Nat, 1 + r1 = m := ⟨(1 + r1).toNat, by omega⟩
    obtain ⟨g, rfl⟩ : ∃ g : Nat, g1 = g := ⟨g1.toNat, by omega⟩
    rw [show (fun i j : Int => V.int (i + j)) 1 r1 = V.int (m : Int) from by show V.int (1 + r1) = _; rw [hm]]
    have hm1 : 1 ≤ m := by omega
    have hm40 : m ≤ 40 := by omega
    refine ⟨_, rfl, _, rfl, bx, gr, m, rfl, B2, hm1, hm40, fun wA ws H3 B3 s3 hwA2 hw3 nm => ?_⟩
    have hwb := B2.fresh hwA2
    refine ⟨by show 0 ≤ sizeLine; decide, fun eA heA => ⟨_, _, rfl, ?_⟩⟩
    have heb := B3.fresh heA
    have s30 := (s1.trans s2).trans s3
    have heH := s30.free B3 heA
    have hwe : wA ≠ eA := fun z => by rw [← z, hw3] at heA; cases heA
    have B4 : BoxAt (upd H3 eA (.lst [])) bx gr := B3.upd heb
    have s4 := s30.upd (o := HO.lst []) heH
    have hw4 : upd H3 eA (HO.lst []) wA = some (.lst (tv ws)) := by rw [upd_ne hwe]; exact hw3
    have he4 : upd H3 eA (HO.lst []) eA = some (.lst []) := upd_same
    generalize upd H3 eA (HO.lst []) = H4 at B4 s4 hw4 he4 ⊢
    refine ⟨_, rfl, 1, (m : Int), rfl, ⟨by decide, by decide, by omega, by omega⟩, ?_⟩
    rw [show ((m : Int) - 1).toNat = m - 1 by omega]
    refine for_range (fun i σ H' => BoxAt H' bx gr ∧ Sty bx gr H H' ∧ H' wA = some (.lst (tv ws)) ∧ (∃ (bs : List (Addr × (Str × Str))) (d : Str → Str → Nat), H' eA = some (.lst (bs.map fun b => .ref b.1)) ∧ (∀ b ∈ bs, Off bx gr H' b.1 = some (.tup [.str b.2.1, .str b.2.2])) ∧ bs.length = i ∧ TwM.GT (ws.take (i + 1)) (bs.map Prod.snd) d) ∧
        ∃ (u1 u2 : Option V), σ = [some (.ref bx), some (.int most), some (.int m), some (.int g), some (.ref wA), some (.ref eA), u1, u2])
      ⟨B4, s4, hw4, ?_, none, none, rfl⟩ ?_ ?_
    · obtain ⟨w0, wr, ew⟩ := TwM.ne_cons (A := ws) (fun z => by rw [z] at nm; have := nm.len; simp at this; omega)
      refine ⟨[], fun _ _ => 0, he4, fun b hb => by simp at hb, rfl, ?_⟩
      rw [ew]
      exact TwM.GT.one w0
    · rintro i σ H5 hi ⟨B5, s5, hw5, ⟨bs, d, he5, hbs, hbl, gt⟩, u1, u2, rfl⟩
      have ek : (1 : Int) + (i : Int) = ((i + 1 : Nat) : Int) := by omega
      rw [ek]
      have hwl := nm.len
      have hi1 : i + 1 < ws.length := by omega
      -- above
      refine ⟨_, rfl, _, rfl, bx, gr, _, rfl, B5, by omega, by omega, fun t1 H6 t10 t11 B6 s6 => ?_⟩
      refine ⟨_, rfl, _, rfl, bx, gr, _, rfl, B6, by omega, by omega, fun t2 H7 t20 t21 B7 s7 => ?_⟩
      refine ⟨_, rfl, _, _, rfl, rfl, _, rfl, _, _, rfl, rfl, _, rfl, bx, gr, 3, rfl, B7, by decide, by decide, fun t3 H8 t30 t31 B8 s8 => ?_⟩
      refine ⟨_, _, rfl, rfl, _, _, rfl, ?_⟩
      refine ⟨by show 5 ≤ sizeLine; decide, fun lA hlA => ?_⟩
      obtain ⟨c, hc, hci⟩ : ∃ c : Nat, ([V.int t1, .int t2, .int (((i + 1 : Nat) : Int) - 1), .int 0, .int (if ((i + 1 : Nat) : Int) - 1 - t3 > 0 then ((i + 1 : Nat) : Int) - 1 - t3 else 0)] : List V)[g]? = some (.int (c : Int)) ∧ c < i + 1 := by
        have hg5 : g < 5 := by omega
        match g, hg5 with
        | 0, _ => exact ⟨t1.toNat, by rw [Int.toNat_of_nonneg t10]; rfl, by omega⟩
        | 1, _ => exact ⟨t2.toNat, by rw [Int.toNat_of_nonneg t20]; rfl, by omega⟩
        | 2, _ => exact ⟨i, by show some (V.int (((i + 1 : Nat) : Int) - 1)) = _; rw [show ((i + 1 : Nat) : Int) - 1 = (i : Int) by omega], by omega⟩
        | 3, _ => exact ⟨0, rfl, by omega⟩
        | 4, _ =>
          refine ⟨(if ((i + 1 : Nat) : Int) - 1 - t3 > 0 then ((i + 1 : Nat) : Int) - 1 - t3 else 0).toNat, ?_, by split <;> omega⟩
          rw [Int.toNat_of_nonneg (by split <;> omega)]; rfl
        | n + 5, h => omega
      have s58 := (s6.trans s7).trans s8
      have hlb := B8.fresh hlA
      have e9 := same_upd (o := HO.lst [V.int t1, .int t2, .int (((i + 1 : Nat) : Int) - 1), .int 0, .int (if ((i + 1 : Nat) : Int) - 1 - t3 > 0 then ((i + 1 : Nat) : Int) - 1 - t3 else 0)]) hlA
      refine ⟨_, rfl, lA, _, _, _, rfl, rfl, SqL.of upd_same, atI_nat hc, ?_⟩
      have hw9 := e9 _ _ (s58.at hw5 hwb)
      have he9 := e9 _ _ (s58.at he5 heb)
      have B9 := B8.mono e9
      have s59 := s58.trans (Sty.of e9)
      generalize upd H8 lA (HO.lst [V.int t1, .int t2, .int (((i + 1 : Nat) : Int) - 1), .int 0, .int (if ((i + 1 : Nat) : Int) - 1 - t3 > 0 then ((i + 1 : Nat) : Int) - 1 - t3 else 0)]) = H9 at e9 hw9 he9 B9 s59 ⊢
      -- the edge
      obtain ⟨x, hx⟩ : ∃ x, ws[i + 1]? = some x := ⟨_, List.getElem?_eq_getElem hi1⟩
      obtain ⟨y, hy⟩ : ∃ y, ws[c]? = some y := ⟨_, List.getElem?_eq_getElem (by omega)⟩
      refine ⟨_, rfl, .inl ⟨rfl, _, SqL.of he9⟩, ?_⟩
      refine ⟨_, rfl, _, rfl, wA, _, _, _, rfl, rfl, SqL.of hw9, atI_nat (tv_at hx), _, rfl, _, rfl, wA, _, _, _, rfl, rfl, SqL.of hw9, atI_nat (tv_at hy), by show 2 ≤ sizeLine; decide, fun p1 hp1 => ?_⟩
      have e10 := same_upd (o := HO.tup [V.str x, .str y]) hp1
      have hp10 : upd H9 p1 (HO.tup [V.str x, .str y]) p1 = some (.tup [V.str x, .str y]) := upd_same
      generalize upd H9 p1 (HO.tup [V.str x, .str y]) = H10 at e10 hp10 ⊢
      refine ⟨_, rfl, _, rfl, wA, _, _, _, rfl, rfl, SqL.of (e10 _ _ hw9), atI_nat (tv_at hy), _, rfl, _, rfl, wA, _, _, _, rfl, rfl, SqL.of (e10 _ _ hw9), atI_nat (tv_at hx), by show 2 ≤ sizeLine; decide, fun p2 hp2 => ?_⟩
      have e11 := same_upd (o := HO.tup [V.str y, .str x]) hp2
      have hp21 : upd H10 p2 (HO.tup [V.str y, .str x]) p2 = some (.tup [V.str y, .str x]) := upd_same
      generalize upd H10 p2 (HO.tup [V.str y, .str x]) = H11 at e11 hp21 ⊢
      refine ⟨by show 2 ≤ sizeLine; decide, fun lB hlB => ?_⟩
      have e12 := same_upd (o := HO.lst [V.ref p1, .ref p2]) hlB
      have hl12 : upd H11 lB (HO.lst [V.ref p1, .ref p2]) lB = some (.lst [V.ref p1, .ref p2]) := upd_same
      generalize upd H11 lB (HO.lst [V.ref p1, .ref p2]) = H12 at e12 hl12 ⊢
      have e912 := (e10.trans e11).trans e12
      have B12 := B9.mono e912
      refine ⟨_, rfl, bx, gr, 2, rfl, B12, by decide, by decide, fun c2 H13 c20 c21 B13 s13 => ?_⟩
      have B11 := B9.mono (e10.trans e11)
      have hlBb := B11.fresh hlB
      have hl13 := s13.at hl12 hlBb
      have hp1b := B9.fresh hp1
      have hp2b := (B9.mono e10).fresh hp2
      -- the chosen pair
      obtain ⟨pA, e, hpick, hpA, hpo, he⟩ : ∃ (pA : Addr) (e : Str × Str), ([V.ref p1, .ref p2] : List V)[c2.toNat]? = some (.ref pA) ∧ H12 pA = some (.tup [.str e.1, .str e.2]) ∧ (pA ≠ bx ∧ pA ≠ gr) ∧ (e = (x, y) ∨ e = (y, x)) := by
        have : c2 = 0 ∨ c2 = 1 := by omega
        rcases this with z | z
        · exact ⟨p1, (x, y), by rw [z]; rfl, (e11.trans e12) _ _ hp10, hp1b, .inl rfl⟩
        · exact ⟨p2, (y, x), by rw [z]; rfl, e12 _ _ hp21, hp2b, .inr rfl⟩
      have hc2 : c2 = (c2.toNat : Int) := by omega
      refine ⟨lB, _, _, _, rfl, rfl, SqL.of hl13, by rw [hc2]; exact atI_nat hpick, ?_⟩
      have he13 := s13.at (e912 _ _ he9) heb
      refine ⟨eA, _, _, rfl, rfl, he13, by rw [List.length_map, hbl]; exact sz_small (by omega), ?_⟩
      have s513 := (s59.trans (Sty.of e912)).trans s13
      have ntup : ∀ {b : Addr} {o : HO} {l : List V}, H13 b = some o → o = .tup l → b ≠ eA := fun h e z => by rw [z, he13] at h; rw [e] at h; cases h
      refine ⟨B13.upd heb, (s5.trans s513).upd heH, by rw [upd_ne hwe]; exact s13.at (e912 _ _ hw9) hwb, ⟨bs ++ [(pA, e)], TwM.dLeaf d x y, ?_, fun b hb => ?_, by rw [List.length_append, hbl]; rfl, ?_⟩, _, _, rfl⟩
      · rw [upd_same, List.map_append]; rfl
      · rcases List.mem_append.mp hb with hb | hb
        · have h13 := s513 _ _ (hbs b hb)
          obtain ⟨b1, b2, b3⟩ := off_some h13
          rw [off_eq b1 b2, upd_ne (ntup b3 rfl)]
          exact b3
        · obtain rfl := List.mem_singleton.mp hb
          have h13 := s13.at hpA hpo
          rw [off_eq hpo.1 hpo.2, upd_ne (ntup h13 rfl)]
          exact h13
      · have et : ws.take (i + 1 + 1) = ws.take (i + 1) ++ [x] := by
          obtain ⟨h1, h2⟩ := List.getElem?_eq_some_iff.mp hx
          rw [List.take_succ_eq_append_getElem h1, h2]
        rw [et, List.map_append]
        refine TwM.GT.leaf gt ?_ ?_ he
        · intro hm
          obtain ⟨j, hj, ej⟩ := List.mem_take_iff_getElem.mp hm
          obtain ⟨h1, h2⟩ := List.getElem?_eq_some_iff.mp hx
          have := (List.getElem_inj nm.nd (i := j) (j := i + 1) (h₀ := by omega) (h₁ := h1)).mp (by rw [ej, h2])
          omega
        · obtain ⟨h1, h2⟩ := List.getElem?_eq_some_iff.mp hy
          rw [← h2]
          exact List.mem_take_iff_getElem.mpr ⟨c, by omega, rfl⟩
    · rintro σ H5 ⟨B5, s5, hw5, ⟨bs, d, he5, hbs, hbl, gt⟩, u1, u2, rfl⟩
      rw [show m - 1 + 1 = m by omega, List.take_of_length_le (by rw [nm.len]; exact Nat.le_refl _)] at gt
      have sz2 : (1000 : Nat) ≤ sizeLine := by decide
      refine ⟨_, rfl, _, rfl, bx, gr, wA, tv ws, rfl, B5, hwb, .inl hw5, by rw [tv_length, nm.len]; omega, fun r2 H6 ys B6 s6 hr2 h6 pm => ⟨r2, _, rfl, .inl ⟨SqL.of h6, fun aP haP => ?_⟩⟩⟩
      obtain ⟨ws', rfl, pw⟩ := perm_map_inv pm
      have haPb := B6.fresh haP
      have e7 := same_upd (o := HO.tup (ws'.map V.str)) haP
      have hP7 : upd H6 aP (HO.tup (ws'.map V.str)) aP = some (.tup (tv ws')) := upd_same
      generalize upd H6 aP (HO.tup (ws'.map V.str)) = H7 at e7 hP7 ⊢
      have B7 := B6.mono e7
      have s57 := s6.trans (Sty.of e7)
      refine ⟨_, rfl, _, rfl, bx, gr, eA, _, rfl, B7, heb, .inl (s57.at he5 heb), by rw [List.length_map, hbl]; omega, fun r3 H8 zs B8 s8 hr3 h8 pm2 => ⟨r3, _, rfl, .inl ⟨SqL.of h8, fun aE haE => ⟨by show 2 ≤ sizeLine; decide, fun rr hrr => ?_⟩⟩⟩⟩
      obtain ⟨bs', rfl, pb⟩ := perm_map_inv pm2
      have nm' := nm.perm pw
      have haEb := B8.fresh haE
      have e9 := same_upd (o := HO.tup (bs'.map fun b => V.ref b.1)) haE
      have hE9 : upd H8 aE (HO.tup (bs'.map fun b => V.ref b.1)) aE = some (.tup (bs'.map fun b => V.ref b.1)) := upd_same
      have hP8 := s8.at hP7 haPb
      generalize upd H8 aE (HO.tup (bs'.map fun b => V.ref b.1)) = H9 at e9 hE9 hrr ⊢
      have e10 := same_upd (o := HO.tup [V.ref aP, .ref aE]) hrr
      have B9 := B8.mono e9
      have hrb := B9.fresh hrr
      have B10 := B9.mono e10
      have s510 := (s57.trans s8).trans (Sty.of (e9.trans e10))
      have bl' : bs'.length = m - 1 := by rw [← pb.length_eq]; exact hbl
      let D : TD := ⟨ws', bs'.map Prod.snd, d, gt.perm pw (pb.map Prod.snd), (fun z => by have := nm'.len; rw [z] at this; simp at this; omega), by rw [nm'.len]; exact hm40, by rw [List.length_map, bl']; omega, nm'.word⟩
      refine q D rr aP aE _ B10 (s5.trans s510) (off_at upd_same hrb) (off_at ((e9.trans e10) _ _ hP8) haPb) ⟨bs', rfl, off_at (e10 _ _ hE9) haEb, fun b hb => s510 _ _ (hbs b (pb.mem_iff.mpr hb))⟩
end
end Tw
namespace Tw
open PySem PySem.Spec PyProof.Rows L2
def mdD (aP aE nr gA : Addr) : List (Key × V) := [(Sum.inr "places", .ref aP), (Sum.inr "edges", .ref aE), (Sum.inr "near", .ref nr), (Sum.inr "gaps", .ref gA)]
theorem md_places {aP aE nr gA : Addr} : valV (mdD aP aE nr gA) (.inr "places") = some (.ref aP) := by kernel_rfl
theorem md_edges {aP aE nr gA : Addr} : valV (mdD aP aE nr gA) (.inr "edges") = some (.ref aE) := by kernel_rfl
theorem md_near {aP aE nr gA : Addr} : valV (mdD aP aE nr gA) (.inr "near") = some (.ref nr) := by kernel_rfl
theorem md_merge {aP aE nr gA : Addr} : mergeK ([] : List (Key × V)) (mdD aP aE nr gA) = mdD aP aE nr gA := by kernel_rfl
/-- the law's own picture of a tree -/
structure ModelAt (D : TD) (H : Hp) (m : Addr) : Prop where
  ex : ∃ aP aE nr gA, H m = some (.dK (mdD aP aE nr gA)) ∧ H aP = some (.tup (tv D.ps)) ∧ PairsAt H aE D.es ∧ NearL D H nr
theorem ModelAt.mono {D : TD} {H H' : Hp} {m : Addr} (h : ModelAt D H m) (e : Same H H') : ModelAt D H' m := by
  obtain ⟨aP, aE, nr, gA, h1, h2, h3, h4⟩ := h.ex
  exact ⟨aP, aE, nr, gA, e _ _ h1, e _ _ h2, h3.mono e, h4.mono e⟩
def spGround : Sp := fun vs H Q _ => ∃ (bx gr : Addr) (most : Int), vs = [.ref bx, .int most] ∧ BoxAt H bx gr ∧ 1 ≤ most ∧ most ≤ 40 ∧ ∀ (D : TD) m H', BoxAt H' bx gr → Sty bx gr H H' → ModelAt D (Off bx gr H') m → Q (.ref m) H'
def spLGrove : Sp := fun vs H Q _ => ∃ (D : TD) (bx gr m : Addr), vs = [.ref bx, .ref m] ∧ BoxAt H bx gr ∧ ModelAt D (Off bx gr H) m ∧ ∀ p S H', BoxAt H' bx gr → Sty bx gr H H' → Off bx gr H' p = some (.tup (tv S)) → GrD D S → Q (.ref p) H'
section
variable {P : Program} {w : World} {K : PySem.W.Frag} {mg : Str → Option Value} {base : Heap} {a : Ads}
theorem ok__law_ground (T : Txt P K mg a) : FnR P w K mg base CX0 5 a.f__law_ground spGround := by
  obtain ⟨fd, F⟩ := T.F__law_ground
  have ok__law_tree := ok__law_tree (P := P) (w := w) (base := base) T
  have ok__law_near := ok__law_near (P := P) (w := w) (base := base) T
  have ok__law_gaps := ok__law_gaps (P := P) (w := w) (base := base) T
  refine okR F sc__law_ground (fun vs H Q E h => ?_) (fun _ _ _ _ _ _ us hl => match us, hl with | [_, _], _ => rfl) (fun cdv A outer s0 H vs Q E hr h => ?_)
  · obtain ⟨bx, gr, most, rfl, _⟩ := h
    rfl
  · obtain ⟨bx, gr, most, rfl, B, m1, m40, q⟩ := h
    have hu := hu_of hr
    refine ⟨_, (pss_cons (ps_asg (cR T.g__law_tree ok__law_tree (hr.mono (by decide)) (by rfl) (pa_cons (pv 0) (pa_cons (pv 1) pa_nil))) (pg_tup rfl (pgs_cons (pg_name (i := 2) sc__law_ground.nd rfl (Or.inl rfl)) (pgs_cons (pg_name (i := 3) sc__law_ground.nd rfl (Or.inl rfl)) pgs_nil))))
  (pss_cons (ps_par (i := 4) (j := 5) rfl sc__law_ground.nd rfl rfl (by decide) rfl rfl (pa_cons (cR T.g__law_near ok__law_near (hr.mono (by decide)) (by rfl) (pa_cons (pv 2) (pa_cons (pv 3) pa_nil))) (pa_cons pe_dnewK pa_nil)) (by rfl))
  (pss_cons (ps_for PassesOwn.never rfl (pi_tup (pv 2)) (pg_name (i := 6) sc__law_ground.nd rfl (Or.inl rfl))
    (pss_one (ps_dput hu (pv 5) (pv 6) (cR T.g__law_gaps ok__law_gaps (hr.mono (by decide)) (by rfl) (pa_cons (pv 4) (pa_cons (pv 6) pa_nil))) rfl)))
  (pss_one (ps_ret (pe_disp (pps_cons pe_str (pv 2) (pps_cons pe_str (pv 3) (pps_cons pe_str (pv 4) (pps_cons pe_str (pv 5) pps_nil)))) (by rfl) (by rfl) (fun z => by cases z) (by decide))))))), ?_⟩
    refine ⟨_, rfl, _, rfl, bx, gr, most, rfl, B, m1, m40, fun D r aP aE H1 B1 s1 hr1 hP hE => ⟨r, _, rfl, SqT.of (off_same _ _ hr1), rfl, _, _, rfl, _, _, rfl, rfl, ?_⟩⟩
    have n1 := D.small
    have hP1 := off_same _ _ hP
    refine ⟨_, rfl, _, rfl, D, aP, aE, rfl, hP1, hE.mono off_same, fun nr H2 e2 hnr N => ?_⟩
    have NO := N.off hnr B1
    have NN := N.near
    refine fun gA hgA => ⟨_, _, rfl, ?_⟩
    have hgH : H1 gA = none := e2.free hgA
    have e3 := same_upd (o := HO.dK ([] : List (Key × V))) hgA
    refine ⟨_, rfl, aP, rfl, ⟨_, SqT.of (e3 _ _ (e2 _ _ hP1))⟩, for_tup (K := K) (a := aP) (xs := tv D.ps) (fun i σ H' => Same H2 H' ∧ (∃ kvs : List (Key × V), H' gA = some (.dK kvs) ∧ kvs.length ≤ i) ∧ ∃ u1 : Option V, σ = [some (.ref bx), some (.int most), some (.ref aP), some (.ref aE), some (.ref nr), some (.ref gA), u1])
      ⟨e3, ⟨[], upd_same, Nat.le_refl _⟩, none, rfl⟩ (fun i σ H' _ e => SqT.of (e.1 _ _ (e2 _ _ hP1))) ?_ ?_⟩
    · rintro i v σ H4 hi ⟨e4, ⟨kvs, hg4, lk⟩, u1, rfl⟩
      obtain ⟨x, hx, rfl⟩ := tv_get hi
      have hxp := List.mem_of_getElem? hx
      have hil : i < D.ps.length := (List.getElem?_eq_some_iff.mp hx).1
      refine ⟨_, rfl, _, rfl, D, nr, x, rfl, NN.mono e4, hxp, fun v H5 e5 hv => ?_⟩
      refine ⟨_, rfl, _, rfl, gA, _, rfl, DPut.k (k := Sum.inr x) (e5 _ _ hg4) (sz_small (by omega)), fun b o h => ?_, ⟨_, upd_same, ?_⟩, _, rfl⟩
      · rw [upd_ne (ne_of_none h hgA)]; exact e5 _ _ (e4 _ _ h)
      · exact Nat.le_trans (length_putK _ _ _) (by omega)
    · rintro σ H4 ⟨e4, ⟨kvs, hg4, lk⟩, u1, rfl⟩
      refine fun m hm => ⟨_, rfl, _, rfl, _, rfl, _, rfl, upd_same, mdD aP aE nr gA, rfl, by show 4 ≤ 15; decide, ?_⟩
      rw [md_merge, upd_upd]
      have e14 := e2.trans e4
      have e5 := e14.trans (same_upd (o := HO.dK (mdD aP aE nr gA)) hm)
      have B4 := B1.mono e14
      refine q D m _ (B1.mono e5) (s1.trans (Sty.of e5)) ⟨aP, aE, nr, gA, off_at upd_same (B4.fresh hm), Sty.of e5 _ _ hP, hE.mono (Sty.of e5), NO.mono (Sty.of (e4.trans (same_upd (o := HO.dK (mdD aP aE nr gA)) hm)))⟩
theorem ok__law_grove (T : Txt P K mg a) : FnR P w K mg base CX0 2 a.f__law_grove spLGrove := by
  obtain ⟨fd, F⟩ := T.F__law_grove
  have ok__law_take := ok__law_take (P := P) (w := w) (base := base) T
  refine okR F sc__law_grove (fun vs H Q E h => ?_) (fun _ _ _ _ _ _ us hl => match us, hl with | [_, _], _ => rfl) (fun cdv A outer s0 H vs Q E hr h => ?_)
  · obtain ⟨D, bx, gr, m, rfl, _⟩ := h
    rfl
  · obtain ⟨D, bx, gr, m, rfl, B, MA, q⟩ := h
    have hu := hu_of hr
    have n1 := D.small
    have n0 := List.length_pos_iff.mpr D.ne
    obtain ⟨aP, aE, nr, gA, hm, hP, hE, na, hnr, hna⟩ := MA.ex
    -- through any draws
    have at_ : ∀ {H' : Hp} {b : Addr} {o : HO}, Sty bx gr H H' → Off bx gr H b = some o → H' b = some o := fun s h => off_same _ _ (s _ _ h)
    refine ⟨_, (pss_cons (ps_set (i := 2) sc__law_grove.nd rfl (Or.inr rfl) (pe_lst (pa_cons (pe_ix ix_tup (pe_dget hu (pv 1) pe_str (fun _ _ => rfl)) (cR T.g__law_take ok__law_take (hr.mono (by decide)) (by rfl) (pa_cons (pv 0) (pa_cons (pe_callB call_len_seq (by rfl) T.n_len PySem.boot_len (pa_cons (pe_dget hu (pv 1) pe_str (fun _ _ => rfl)) pa_nil)) pa_nil))) (fun _ _ => rfl)) pa_nil)))
  (pss_cons (ps_for PassesOwn.never rfl (pi_range1 rfl T.n_range (pa_cons (cR T.g__law_take ok__law_take (hr.mono (by decide)) (by rfl) (pa_cons (pv 0) (pa_cons (pe_callB call_len_seq (by rfl) T.n_len PySem.boot_len (pa_cons (pe_dget hu (pv 1) pe_str (fun _ _ => rfl)) pa_nil)) pa_nil))) pa_nil)) (pg_name (i := 3) sc__law_grove.nd rfl (Or.inl rfl))
    (pss_cons (ps_set (i := 4) sc__law_grove.nd rfl (Or.inl rfl) (pe_lst pa_nil))
  (pss_cons (ps_for PassesOwn.never rfl (pi_list (pv 2)) (pg_name (i := 5) sc__law_grove.nd rfl (Or.inl rfl))
    (pss_one (ps_expr (pe_bm PySem.F.plainAttrs_list PySem.F.slot_list_extend PySem.F.type_list_extend mt_extend (pv 4) (pa_cons (pe_lc (own := [("_law_other", 6)]) rfl sc__law_grove.nd (pi_list (pe_dget hu (pe_dget hu (pv 1) pe_str (fun _ _ => rfl)) (pv 5) (fun _ _ => rfl))) (blkOk_by (own := [("_law_other", 6)]) (N := N__law_grove) (sc := (defScope s__law_grove)) (by decide +kernel)) (fun _ _ _ _ _ => (pg_name (i := 6) sc__law_grove.nd rfl (Or.inl rfl))) (fun _ _ _ _ _ => (pts_one (pt_cmpR (op_notIn_seqK (K := K) rfl) (pv 6) (pv 2) (by rfl)))) (fun _ _ _ _ _ => (pv 6))) pa_nil)))))
  (pss_one (ps_if (pt_cmpR op_gt (pe_callB call_len_seq (by rfl) T.n_len PySem.boot_len (pa_cons (pv 4) pa_nil)) pe_int (nomark _)) (pss_one (ps_expr (pe_bm PySem.F.plainAttrs_list PySem.F.slot_list_append PySem.F.type_list_append mt_append (pv 2) (pa_cons (pe_ix ix_list (pv 4) (cR T.g__law_take ok__law_take (hr.mono (by decide)) (by rfl) (pa_cons (pv 0) (pa_cons (pe_callB call_len_seq (by rfl) T.n_len PySem.boot_len (pa_cons (pv 4) pa_nil)) pa_nil))) (fun _ _ => rfl)) pa_nil)))) pss_nil)))))
  (pss_one (ps_ret (pe_callTy call_tuple_of (by rfl) T.n_tuple (by decide +kernel) (pa_cons (pe_lc (own := [("_law_place", 5)]) rfl sc__law_grove.nd (pi_tup (pe_dget hu (pv 1) pe_str (fun _ _ => rfl))) (blkOk_by (own := [("_law_place", 5)]) (N := N__law_grove) (sc := (defScope s__law_grove)) (by decide +kernel)) (fun _ _ _ _ _ => (pg_name (i := 5) sc__law_grove.nd rfl (Or.inl rfl))) (fun _ _ _ _ _ => (pts_one (pt_cmpR (op_in_seqK (K := K) rfl) (pv 5) (pv 2) (by rfl)))) (fun _ _ _ _ _ => (pv 5))) pa_nil)))))), ?_⟩
    have mp : ∀ {H' : Hp}, Sty bx gr H H' → DGet H' m (.str "places") (some (.ref aP)) := fun s => dget (at_ s hm) md_places
    refine ⟨_, rfl, m, _, rfl, mp Sty.refl, _, rfl, _, rfl, m, _, rfl, mp Sty.refl, aP, _, rfl, .inr (SqT.of (at_ Sty.refl hP)), bx, gr, _, rfl, B, by rw [tv_length]; omega, by rw [tv_length]; omega, fun r1 H1 r10 r11 B1 s1 => ?_⟩
    rw [tv_length] at r11
    obtain ⟨k1, rfl⟩ : ∃ k : Nat, r1 = k := ⟨r1.toNat, by omega⟩
    obtain ⟨x0, hx0⟩ : ∃ x, D.ps[k1]? = some x := ⟨_, List.getElem?_eq_getElem (by omega)⟩
    have hx0p := List.mem_of_getElem? hx0
    refine ⟨aP, _, _, _, rfl, rfl, SqT.of (at_ s1 hP), atI_nat (tv_at hx0), by show 1 ≤ sizeLine; decide, fun hA hhA => ?_⟩
    have hhb := B1.fresh hhA
    have hhH := s1.free B1 hhA
    have B2 : BoxAt (upd H1 hA (.lst [V.str x0])) bx gr := B1.upd hhb
    have s2 := s1.upd (o := HO.lst [V.str x0]) hhH
    have h2 : upd H1 hA (HO.lst [V.str x0]) hA = some (.lst (tv [x0])) := upd_same
    generalize upd H1 hA (HO.lst [V.str x0]) = H2 at B2 s2 h2 ⊢
    refine ⟨_, rfl, _, rfl, m, _, rfl, mp s2, aP, _, rfl, .inr (SqT.of (at_ s2 hP)), bx, gr, _, rfl, B2, by rw [tv_length]; omega, by rw [tv_length]; omega, fun r2 H3 r20 r21 B3 s3 => ?_⟩
    rw [tv_length] at r21
    refine ⟨r2, rfl, by omega, by omega, ?_⟩
    refine for_range (fun i σ H' => BoxAt H' bx gr ∧ Sty bx gr H H' ∧ (∃ hl : List Str, H' hA = some (.lst (tv hl)) ∧ hl.length ≤ i + 1 ∧ hl ≠ [] ∧ (∀ x ∈ hl, x ∈ D.ps) ∧ TwM.Cvx D.ps D.d hl) ∧ ∃ u1 u2 u3 : Option V, σ = [some (.ref bx), some (.ref m), some (.ref hA), u1, u2, u3, none])
      ⟨B3, s2.trans s3, ⟨[x0], s3.at h2 hhb, Nat.le_refl _, by simp, fun x hx => by rw [List.mem_singleton.mp hx]; exact hx0p, ?_⟩, none, none, none, rfl⟩ ?_ ?_
    · exact (TwM.single_gr D.gt.tm hx0p D.gt.nd).cvx
    · rintro i σ H4 hi ⟨B4, s4, ⟨hl, hh4, lh, hne, hsub, hcv⟩, u1, u2, u3, rfl⟩
      refine ⟨by show 0 ≤ sizeLine; decide, fun bA hbA => ?_⟩
      have hbb := B4.fresh hbA
      have e5 := same_upd (o := HO.lst []) hbA
      have hih : hl.length ≤ 41 := by omega
      have sz : (10000 : Nat) ≤ sizeLine := by decide
      refine ⟨_, rfl, hA, rfl, ⟨_, SqL.of (e5 _ _ hh4)⟩, for_list (K := K) (a := hA) (xs := tv hl) (fun j σ H' => Same H4 H' ∧ (∃ bl : List Str, H' bA = some (.lst (tv bl)) ∧ bl.length ≤ 40 * j ∧ ∀ v ∈ bl, v ∈ D.ps ∧ ∃ s ∈ hl, TwM.EdgeOf D.es s v) ∧ ∃ u2 : Option V, σ = [some (.ref bx), some (.ref m), some (.ref hA), some (.int (0 + (i : Int))), some (.ref bA), u2, none])
        ⟨e5, ⟨[], upd_same, Nat.le_refl _, fun v hv => by simp at hv⟩, _, rfl⟩ (fun j σ H' _ e => SqL.of (e.1 _ _ hh4)) ?_ ?_⟩
      · rintro j v σ H5 hj ⟨e5, ⟨bl, hb5, lb, hbl⟩, u2, rfl⟩
        obtain ⟨x, hx, rfl⟩ := tv_get hj
        have hxh := List.mem_of_getElem? hx
        have hxp := hsub x hxh
        have hjl : j < hl.length := (List.getElem?_eq_some_iff.mp hx).1
        have s5 := s4.trans (Sty.of e5)
        have hh5 := e5 _ _ hh4
        refine ⟨_, rfl, .inl ⟨rfl, _, SqL.of hb5⟩, _, rfl, m, _, rfl, dget (at_ s5 hm) md_near, _, rfl, nr, _, rfl, dget (at_ s5 hnr) (dkv_at hxp), na x, rfl, ⟨_, SqL.of (at_ s5 (hna x hxp))⟩, fun B hB => lc_sel (l := nearL D x) (mk := V.str) (fun z => !decide (z ∈ hl)) V.str walk_list (fun H' e => SqL.of (e _ _ (at_ s5 (hna x hxp)))) (Nat.le_trans (List.length_filter_le _ _) (by omega)) hB (fun z hz H6 e N1 N2 n => ?_) (fun H6 e6 hB6 => ?_)⟩
        · refine ⟨rfl, _, rfl, _, rfl, hA, _, rfl, .inl (SqL.of (e _ _ hh5)), rfl, tv_flat _, _, rfl, ?_⟩
          show if (!inV (V.str z) (tv hl)) = true then _ else _
          rw [tv_in]
          refine ite2 (fun hc => ?_) (fun hc => ?_)
          · exact ⟨_, rfl, (n H6 fun _ _ z => z).2 hc⟩
          · exact (n H6 fun _ _ z => z).1 (Bool.eq_false_iff.mpr hc)
        · have ll : ((nearL D x).filter fun z => !decide (z ∈ hl)).length ≤ 40 := Nat.le_trans (List.length_filter_le _ _) (Nat.le_trans (List.length_filter_le _ _) n1)
          refine ⟨bA, B, _, _, rfl, rfl, e6 _ _ hb5, hB6, by rw [tv_length, List.length_map]; omega, fun b o h => ?_, ⟨bl ++ ((nearL D x).filter fun z => !decide (z ∈ hl)), ?_, ?_, fun v hv => ?_⟩, _, rfl⟩
          · rw [upd_ne (ne_of_none h hbA)]; exact e6 _ _ (e5 _ _ h)
          · rw [upd_same]; unfold tv; rw [List.map_append]
          · rw [List.length_append]; omega
          · rcases List.mem_append.mp hv with hv | hv
            · exact hbl v hv
            · have h1 := (List.mem_filter.mp hv).1
              have h2 := List.mem_filter.mp h1
              exact ⟨h2.1, x, hxh, of_decide_eq_true h2.2⟩
      · rintro σ H5 ⟨e5, ⟨bl, hb5, lb, hbl⟩, u2, rfl⟩
        rw [tv_length] at lb
        have s5 := s4.trans (Sty.of e5)
        have B5 := B4.mono e5
        have hh5 := e5 _ _ hh4
        refine ⟨_, rfl, bA, _, rfl, .inl (SqL.of hb5), _, _, rfl, rfl, _, rfl, ?_⟩
        rw [tv_length]
        refine ite2 (fun hc => ?_) (fun hc => ?_)
        · have hpos : 0 < bl.length := by have := of_decide_eq_true hc; omega
          refine ⟨_, rfl, .inl ⟨rfl, _, SqL.of hh5⟩, _, rfl, _, rfl, _, rfl, bA, _, rfl, .inl (SqL.of hb5), bx, gr, _, rfl, B5, by rw [tv_length]; omega, by rw [tv_length]; omega, fun r H6 r0 r1 B6 s6 => ?_⟩
          rw [tv_length] at r1
          obtain ⟨k, rfl⟩ : ∃ k : Nat, r = k := ⟨r.toNat, by omega⟩
          obtain ⟨v, hv⟩ : ∃ v, bl[k]? = some v := ⟨_, List.getElem?_eq_getElem (by omega)⟩
          obtain ⟨hvp, s, hs, hsv⟩ := hbl v (List.mem_of_getElem? hv)
          refine ⟨bA, _, _, _, rfl, rfl, SqL.of (s6.at hb5 hbb), atI_nat (tv_at hv), hA, _, _, rfl, rfl, s6.at hh5 hhb, by rw [tv_length]; exact sz_small (by omega), ?_⟩
          refine ⟨B6.upd hhb, (s5.trans s6).upd hhH, ⟨hl ++ [v], ?_, by rw [List.length_append]; show _ + 1 ≤ _; omega, by simp, fun x hx => ?_, ?_⟩, _, _, _, rfl⟩
          · rw [upd_same]; unfold tv; rw [List.map_append]; rfl
          · rcases List.mem_append.mp hx with hx | hx
            · exact hsub x hx
            · rw [List.mem_singleton.mp hx]; exact hvp
          · have hsp := hsub s hs
            have hd : D.d s v = 1 := by
              rcases D.gt.adj.step s hsp s v hsv with e | e
              · rw [D.gt.tm.self s hsp] at e; omega
              · rw [D.gt.tm.self s hsp] at e; omega
            exact TwM.cvx_more D.gt.tm hsub hcv hs hvp (fun x hx => (D.gt.adj.step x hx s v hsv).symm) hd fun x => by rw [List.mem_append, List.mem_singleton]
        · exact ⟨B5, s5, ⟨hl, hh5, by omega, hne, hsub, hcv⟩, _, _, _, rfl⟩
    · rintro σ H4 ⟨B4, s4, ⟨hl, hh4, lh, hne, hsub, hcv⟩, u1, u2, u3, rfl⟩
      refine ⟨_, rfl, m, _, rfl, mp s4, aP, rfl, ⟨_, SqT.of (at_ s4 hP)⟩, fun B5 hB5 => lc_pick (i := 5) (l := D.ps) (fun z => decide (z ∈ hl)) (walk_tup (K := K) (a := aP)) (fun H' e => SqT.of (e _ _ (at_ s4 hP))) (by omega) hB5 (fun _ => rfl) (fun _ => rfl) (fun z hz H' R e r => ?_) ?_⟩
      · refine ⟨_, rfl, _, rfl, hA, _, rfl, .inl (SqL.of (e _ _ hh4)), rfl, tv_flat _, _, rfl, ?_⟩
        show R (inV (.str z) (tv hl)) H'
        rw [tv_in]
        exact r
      · refine ⟨B5, _, rfl, .inl ⟨SqL.of upd_same, fun p hp => ?_⟩⟩
        have e6 := Same.upd' (o := HO.tup (tv (D.ps.filter fun z => decide (z ∈ hl)))) (same_upd (o := HO.lst (tv (D.ps.filter fun z => decide (z ∈ hl)))) hB5) hp
        have hpb := (B4.mono (same_upd (o := HO.lst (tv (D.ps.filter fun z => decide (z ∈ hl)))) hB5)).fresh hp
        have mS : ∀ x, x ∈ D.ps.filter (fun z => decide (z ∈ hl)) ↔ x ∈ hl := fun x => by
          rw [List.mem_filter, decide_eq_true_iff]
          exact ⟨fun h => h.2, fun h => ⟨hsub x h, h⟩⟩
        refine q p _ _ (B4.mono e6) (s4.trans (Sty.of e6)) (off_at upd_same hpb) (TwM.Gr.of_filter ?_ fun x hx y hy z hz e => (mS z).mpr (hcv x ((mS x).mp hx) y ((mS y).mp hy) z hz e))
        obtain ⟨w0, wr, ew⟩ := TwM.ne_cons hne
        intro z
        have := (mS w0).mpr (by rw [ew]; exact List.mem_cons_self)
        rw [z] at this; simp at this
end
end Tw
namespace Tw
open PySem PySem.Spec PyProof.Rows L2
theorem next_of {D : Ends} {σ : L2.St} {H : Hp} (h : D.nx σ H) : tNext D σ H := h
theorem gr_ball {D : TD} {c : Str} {r : Int} (hx : c ∈ D.ps) (hr0 : 0 ≤ r) : GrD D (D.ps.filter fun x => decide ((D.d c x : Int) ≤ r)) := by
  have mS : ∀ x, x ∈ D.ps.filter (fun x => decide ((D.d c x : Int) ≤ r)) ↔ x ∈ D.ps ∧ (D.d c x : Int) ≤ r := fun x => by rw [List.mem_filter, decide_eq_true_iff]
  refine TwM.Gr.of_filter (fun z => ?_) (TwM.cvx_ball D.gt.tm hx r mS)
  have := (mS c).mpr ⟨hx, by rw [D.gt.tm.self c hx]; exact hr0⟩
  rw [z] at this; simp at this
theorem gr_way {D : TD} {u v : Str} (hx : u ∈ D.ps) (hy : v ∈ D.ps) : GrD D (D.ps.filter fun x => decide (D.d u x + D.d x v = D.d u v)) := by
  have mS : ∀ x, x ∈ D.ps.filter (fun x => decide (D.d u x + D.d x v = D.d u v)) ↔ x ∈ D.ps ∧ D.d u x + D.d x v = D.d u v := fun x => by rw [List.mem_filter, decide_eq_true_iff]
  refine TwM.Gr.of_filter (fun z => ?_) (TwM.cvx_way D.gt.tm hx hy mS)
  have := (mS u).mpr ⟨hx, by rw [D.gt.tm.self u hx, Nat.zero_add]⟩
  rw [z] at this; simp at this
theorem gr_branch {D : TD} {u v : Str} (hE : TwM.EdgeOf D.es u v) : GrD D (D.ps.filter fun x => decide (D.d u v + D.d v x = D.d u x)) := by
  obtain ⟨hx, hy⟩ := D.gt.edge_mem hE
  have hd : D.d u v = 1 := by
    rcases D.gt.adj.step u hx u v hE with e | e
    · rw [D.gt.tm.self u hx] at e; omega
    · rw [D.gt.tm.self u hx] at e; omega
  have mS : ∀ x, x ∈ D.ps.filter (fun x => decide (D.d u v + D.d v x = D.d u x)) ↔ x ∈ D.ps ∧ D.d u v + D.d v x = D.d u x := fun x => by rw [List.mem_filter, decide_eq_true_iff]
  refine TwM.Gr.of_filter (fun z => ?_) (TwM.cvx_branch D.gt.tm hx hy hd (fun s hs => D.gt.adj.step s hs u v hE) mS)
  have := (mS v).mpr ⟨hy, by rw [D.gt.tm.self v hy, Nat.add_zero]⟩
  rw [z] at this; simp at this
theorem gr_all {D : TD} : GrD D D.ps := ⟨by rw [List.filter_eq_self.mpr fun x hx => decide_eq_true hx], D.ne, TwM.cvx_all D.gt.tm⟩
theorem shaped_lst {l : List Str} (h : ∀ x ∈ l, PyData.strOk x = true) : SeqAt.shaped (.list (l.map PyData.str)) = true := by
  simp [SeqAt.shaped, PyData.canLay0, PyData.depth, canLay_strs h, depth_strs]
theorem eqv_nil (l : List Str) : PyData.eqv (.list (l.map PyData.str)) (.list []) = decide (l = []) := by
  cases l with
  | nil => rfl
  | cons x r => rfl
theorem make_end {a : Ads} {H1 H' : Hp} {bx gr x dx C t aO : Addr} {fs : List (Str × V)} {S : List Str} (B1 : BoxAt H1 bx gr) (hx : H1 x = none) (hd : H1 dx = none) (hne : dx ≠ x) (gc : GC a C) (b : But x (upd (upd H1 dx (.own x)) x (.ins C dx [])) H')
    (h1 : H' x = some (.ins C dx fs)) (h2 : fs.lookup ("own_tree" : Str) = some (.ref t)) (h3 : fs.lookup ("own" : Str) = some (.ref aO)) (h4 : H' aO = some (.tup (tv S))) (h5 : fs.lookup ("bridge" : Str) = none) (h6 : fs.lookup ("sources" : Str) = none) :
    BoxAt H' bx gr ∧ Sty bx gr H1 H' ∧ GroveAt a (Off bx gr H') t x S := by
  have e : Same H1 H' := fun c o h => b c o (by rw [upd_ne (ne_of_none h hx), upd_ne (ne_of_none h hd)]; exact h) (ne_of_none h hx)
  have B' := B1.mono e
  exact ⟨B', Sty.of e, GroveAt.off ⟨C, dx, aO, fs, gc, h1, h2, h3, h4, h5, h6⟩ B'⟩
theorem make_mono {H1 : Hp} {x dx C : Addr} (hx : H1 x = none) (hd : H1 dx = none) : Same H1 (upd (upd H1 dx (.own x)) x (.ins C dx [])) := fun c o h => by rw [upd_ne (ne_of_none h hx), upd_ne (ne_of_none h hd)]; exact h
def spShape (a : Ads) : Sp := fun vs H Q _ => ∃ (D : TD) (bx gr m t : Addr), vs = [.ref bx, .ref m, .ref t] ∧ BoxAt H bx gr ∧ ModelAt D (Off bx gr H) m ∧ TreeAt a D (Off bx gr H) t ∧ ∀ g S H', BoxAt H' bx gr → Sty bx gr H H' → GroveAt a (Off bx gr H') t g S → GrD D S → Q (.ref g) H'
section
variable {P : Program} {w : World} {K : PySem.W.Frag} {mg : Str → Option Value} {base : Heap} {a : Ads}
theorem ok__law_shape (T : Txt P K mg a) : FnR P w K mg base CX0 5 a.f__law_shape (spShape a) := by
  obtain ⟨fd, F⟩ := T.F__law_shape
  have ok__law_take := ok__law_take (P := P) (w := w) (base := base) T
  have ok__law_grove := ok__law_grove (P := P) (w := w) (base := base) T
  have ok_BallX_initX := ok_BallX_initX (P := P) (w := w) (base := base) T
  have ok_WayX_initX := ok_WayX_initX (P := P) (w := w) (base := base) T
  have ok_BranchX_initX := ok_BranchX_initX (P := P) (w := w) (base := base) T
  have ok_WholeX_initX := ok_WholeX_initX (P := P) (w := w) (base := base) T
  have ok_GroveX_initX := ok_GroveX_initX (P := P) (w := w) (base := base) T
  refine okR F sc__law_shape (fun vs H Q E h => ?_) (fun _ _ _ _ _ _ us hl => match us, hl with | [_, _, _], _ => rfl) (fun cdv A outer s0 H vs Q E hr h => ?_)
  · obtain ⟨D, bx, gr, m, t, rfl, _⟩ := h
    rfl
  · obtain ⟨D, bx, gr, m, t, rfl, B, MA, TA, q⟩ := h
    have hu := hu_of hr
    have n1 := D.small
    have n0 := List.length_pos_iff.mpr D.ne
    obtain ⟨aP, aE, nr, gA, hm, hP, hE, na, hnr, hna⟩ := MA.ex
    have at_ : ∀ {H' : Hp} {b : Addr} {o : HO}, Sty bx gr H H' → Off bx gr H b = some o → H' b = some o := fun s h => off_same _ _ (s _ _ h)
    have mp : ∀ {H' : Hp}, Sty bx gr H H' → DGet H' m (.str "places") (some (.ref aP)) := fun s => dget (at_ s hm) md_places
    refine ⟨_, (pss_cons (ps_par (i := 3) (j := 4) rfl sc__law_shape.nd rfl rfl (by decide) rfl rfl (pa_cons (pe_dget hu (pv 1) pe_str (fun _ _ => rfl)) (pa_cons (cR T.g__law_take ok__law_take (hr.mono (by decide)) (by rfl) (pa_cons (pv 0) (pa_cons pe_int pa_nil))) pa_nil)) (by rfl))
  (pss_cons (ps_par (i := 5) (j := 6) rfl sc__law_shape.nd rfl rfl (by decide) rfl rfl (pa_cons (pe_ix ix_tup (pv 3) (cR T.g__law_take ok__law_take (hr.mono (by decide)) (by rfl) (pa_cons (pv 0) (pa_cons (pe_callB call_len_seq (by rfl) T.n_len PySem.boot_len (pa_cons (pv 3) pa_nil)) pa_nil))) (fun _ _ => rfl)) (pa_cons (pe_ix ix_tup (pv 3) (cR T.g__law_take ok__law_take (hr.mono (by decide)) (by rfl) (pa_cons (pv 0) (pa_cons (pe_callB call_len_seq (by rfl) T.n_len PySem.boot_len (pa_cons (pv 3) pa_nil)) pa_nil))) (fun _ _ => rfl)) pa_nil)) (by rfl))
  (pss_cons (ps_if (pt_cmpR op_eq (pv 4) pe_int (nomark _)) (pss_one (ps_ret (StX.pe_makeR T.mk_Ball ok_BallX_initX (hr.mono (by decide)) (by rfl) T.mg_Ball pass0 (pa_cons (pv 2) (pa_cons (pv 5) (pa_cons (cR T.g__law_take ok__law_take (hr.mono (by decide)) (by rfl) (pa_cons (pv 0) (pa_cons pe_int pa_nil))) pa_nil)))))) pss_nil)
  (pss_cons (ps_if (pt_cmpR op_eq (pv 4) pe_int (nomark _)) (pss_one (ps_ret (StX.pe_makeR T.mk_Way ok_WayX_initX (hr.mono (by decide)) (by rfl) T.mg_Way pass0 (pa_cons (pv 2) (pa_cons (pv 5) (pa_cons (pv 6) pa_nil)))))) pss_nil)
  (pss_cons (ps_if (PW.pt (pw_and (pt_cmpR op_eq (pv 4) pe_int (nomark _)) (pw_and1 (pt_cmpR (op_neD hr.units) (pe_dget hu (pe_dget hu (pv 1) pe_str (fun _ _ => rfl)) (pv 5) (fun _ _ => rfl)) (pe_lst pa_nil) (nomark _))))) (pss_one (ps_ret (StX.pe_makeR T.mk_Branch ok_BranchX_initX (hr.mono (by decide)) (by rfl) T.mg_Branch pass0 (pa_cons (pv 2) (pa_cons (pv 5) (pa_cons (pe_ix ix_list (pe_dget hu (pe_dget hu (pv 1) pe_str (fun _ _ => rfl)) (pv 5) (fun _ _ => rfl)) (cR T.g__law_take ok__law_take (hr.mono (by decide)) (by rfl) (pa_cons (pv 0) (pa_cons (pe_callB call_len_seq (by rfl) T.n_len PySem.boot_len (pa_cons (pe_dget hu (pe_dget hu (pv 1) pe_str (fun _ _ => rfl)) (pv 5) (fun _ _ => rfl)) pa_nil)) pa_nil))) (fun _ _ => rfl)) pa_nil)))))) pss_nil)
  (pss_cons (ps_if (pt_cmpR op_eq (pv 4) pe_int (nomark _)) (pss_one (ps_ret (StX.pe_makeR T.mk_Whole ok_WholeX_initX (hr.mono (by decide)) (by rfl) T.mg_Whole pass0 (pa_cons (pv 2) pa_nil)))) pss_nil)
  (pss_one (ps_ret (StX.pe_makeR T.mk_Grove ok_GroveX_initX (hr.mono (by decide)) (by rfl) T.mg_Grove pass0 (pa_cons (pv 2) (pa_cons (cR T.g__law_grove ok__law_grove (hr.mono (by decide)) (by rfl) (pa_cons (pv 0) (pa_cons (pv 1) pa_nil))) pa_nil))))))))))), ?_⟩
    refine ⟨_, rfl, m, _, rfl, mp Sty.refl, _, rfl, bx, gr, 6, rfl, B, by decide, by decide, fun fo H1 f0 f1 B1 s1 => ⟨_, _, rfl, ?_⟩⟩
    refine ⟨_, rfl, _, rfl, _, rfl, aP, _, rfl, .inr (SqT.of (at_ s1 hP)), bx, gr, _, rfl, B1, by rw [tv_length]; omega, by rw [tv_length]; omega, fun k1 H2 k10 k11 B2 s2 => ?_⟩
    rw [tv_length] at k11
    obtain ⟨k1, rfl⟩ : ∃ k : Nat, k1 = k := ⟨k1.toNat, by omega⟩
    obtain ⟨x, hx⟩ : ∃ x, D.ps[k1]? = some x := ⟨_, List.getElem?_eq_getElem (by omega)⟩
    have hxp := List.mem_of_getElem? hx
    have s12 := s1.trans s2
    refine ⟨aP, _, _, _, rfl, rfl, SqT.of (at_ s12 hP), atI_nat (tv_at hx), ?_⟩
    refine ⟨_, rfl, _, rfl, _, rfl, aP, _, rfl, .inr (SqT.of (at_ s12 hP)), bx, gr, _, rfl, B2, by rw [tv_length]; omega, by rw [tv_length]; omega, fun k2 H3 k20 k21 B3 s3 => ?_⟩
    rw [tv_length] at k21
    obtain ⟨k2, rfl⟩ : ∃ k : Nat, k2 = k := ⟨k2.toNat, by omega⟩
    obtain ⟨y, hy⟩ : ∃ y, D.ps[k2]? = some y := ⟨_, List.getElem?_eq_getElem (by omega)⟩
    have hyp := List.mem_of_getElem? hy
    have s13 := s12.trans s3
    refine ⟨aP, _, _, _, rfl, rfl, SqT.of (at_ s13 hP), atI_nat (tv_at hy), _, _, rfl, ?_⟩
    have tr : ∀ {H' : Hp}, Sty bx gr H H' → TreeAt a D H' t := fun s => (TA.mono s).mono off_same
    -- form == 0
    refine ⟨_, rfl, rfl, _, rfl, ?_⟩
    refine ite2 (fun _ => ?_) (fun _ => ?_)
    · refine ⟨_, rfl, _, rfl, _, rfl, bx, gr, 4, rfl, B3, by decide, by decide, fun r H4 r0 r1 B4 s4 => fun g dx hg hd hne => ?_⟩
      have s14 := s13.trans s4
      refine ⟨D, g, t, dx, x, r, rfl, upd_same, (tr s14).mono (make_mono hg hd), hxp, r0, fun H' aO fs b h1 h2 h3 h4 h5 h6 => ⟨rfl, ?_⟩⟩
      obtain ⟨B', s', G'⟩ := make_end B4 hg hd hne (.inr (.inr (.inl rfl))) b h1 h2 h3 h4 h5 h6
      exact q g _ H' B' (s14.trans s') G' (gr_ball hxp r0)
    -- form == 1
    refine ⟨_, rfl, rfl, _, rfl, ?_⟩
    refine ite2 (fun _ => ?_) (fun _ => ?_)
    · refine ⟨_, rfl, _, rfl, _, rfl, fun g dx hg hd hne => ?_⟩
      refine ⟨D, g, t, dx, x, y, rfl, upd_same, (tr s13).mono (make_mono hg hd), hxp, hyp, fun H' aO fs b h1 h2 h3 h4 h5 h6 => ⟨rfl, ?_⟩⟩
      obtain ⟨B', s', G'⟩ := make_end B3 hg hd hne (.inr (.inr (.inr (.inr (.inl rfl))))) b h1 h2 h3 h4 h5 h6
      exact q g _ H' B' (s13.trans s') G' (gr_way hxp hyp)
    -- form == 2 and model['near'][one] != []
    have nx : ∀ {H' : Hp}, Sty bx gr H H' → DGet H' m (.str "near") (some (.ref nr)) := fun s => dget (at_ s hm) md_near
    refine next_of ?_
    dsimp only
    refine cut_seq (fun σ H' => σ = [some (.ref bx), some (.ref m), some (.ref t), some (.ref aP), some (.int fo), some (.str x), some (.str y)] ∧ BoxAt H' bx gr ∧ Sty bx gr H H') ?_ (fun N hN => ?_)
    · rintro σ H4 ⟨rfl, B4, s4⟩
      -- form == 3
      refine ⟨_, rfl, rfl, _, rfl, ?_⟩
      refine ite2 (fun _ => ?_) (fun _ => ?_)
      · refine ⟨_, rfl, fun g dx hg hd hne => ?_⟩
        refine ⟨D, g, t, dx, rfl, upd_same, (tr s4).mono (make_mono hg hd), fun H' aO fs b h1 h2 h3 h4 h5 h6 => ⟨rfl, ?_⟩⟩
        obtain ⟨B', s', G'⟩ := make_end B4 hg hd hne (.inr (.inr (.inr (.inr (.inr rfl))))) b h1 h2 h3 h4 h5 h6
        exact q g _ H' B' (s4.trans s') G' gr_all
      -- Grove(..)
      · refine ⟨_, rfl, _, rfl, _, rfl, D, bx, gr, m, rfl, B4, MA.mono s4, fun p S H5 B5 s5 hp hS => ?_⟩
        refine fun g dx hg hd hne => ?_
        have s45 := s4.trans s5
        have mm := make_mono (C := a.c_Grove) hg hd
        refine ⟨D, _, g, t, p, dx, S, S, rfl, .inl rfl, upd_same, (tr s45).mono mm, mm _ _ (off_same _ _ hp), fun z hz => hS.sub hz, hS.ord, hS, fun aO H' b h1 h2 => ⟨rfl, ?_⟩⟩
        obtain ⟨B', s', G'⟩ := make_end B5 hg hd hne (.inl rfl) b h1 (by kernel_rfl) (by kernel_rfl) h2 (by kernel_rfl) (by kernel_rfl)
        exact q g _ H' B' (s45.trans s') G' hS
    · refine ⟨_, rfl, rfl, _, rfl, ?_⟩
      refine ite2 (fun _ => ?_) (fun _ => ?_)
      · refine ⟨_, rfl, m, _, rfl, nx s13, _, rfl, nr, _, rfl, dget (at_ s13 hnr) (dkv_at hxp), by show 0 ≤ sizeLine; decide, fun eA heA => ?_⟩
        have e4 := same_upd (o := HO.lst []) heA
        have s4 := s13.trans (Sty.of e4)
        have B4 := B3.mono e4
        have so := shaped_lst (l := nearL D x) fun z hz => (D.word z (List.mem_filter.mp hz).1).ok
        refine ⟨_, _, .lst (SqL.of (at_ s4 (hna x hxp))) (dp_strs _), .lst (SqL.of upd_same) .nil, so, shaped_lst (l := []) (fun z hz => by simp at hz), _, rfl, ?_⟩
        rw [eqv_nil]
        refine ite2 (fun hc => ?_) (fun _ => ?_)
        · have hnn : nearL D x ≠ [] := fun z => by rw [decide_eq_true z] at hc; cases hc
          have hpos := List.length_pos_iff.mpr hnn
          have ll : (nearL D x).length ≤ 40 := Nat.le_trans (List.length_filter_le _ _) n1
          refine ⟨_, rfl, _, rfl, _, rfl, m, _, rfl, nx s4, _, rfl, nr, _, rfl, dget (at_ s4 hnr) (dkv_at hxp), ?_⟩
          refine ⟨_, rfl, _, rfl, m, _, rfl, nx s4, _, rfl, nr, _, rfl, dget (at_ s4 hnr) (dkv_at hxp), na x, _, rfl, .inl (SqL.of (at_ s4 (hna x hxp))), bx, gr, _, rfl, B4, by rw [tv_length]; omega, by rw [tv_length]; omega, fun r H5 r0 r1 B5 s5 => ?_⟩
          rw [tv_length] at r1
          obtain ⟨k, rfl⟩ : ∃ k : Nat, r = k := ⟨r.toNat, by omega⟩
          obtain ⟨v, hv⟩ : ∃ v, (nearL D x)[k]? = some v := ⟨_, List.getElem?_eq_getElem (by omega)⟩
          have hE := of_decide_eq_true (List.mem_filter.mp (List.mem_of_getElem? hv)).2
          have s15 := s4.trans s5
          refine ⟨na x, _, _, _, rfl, rfl, SqL.of (at_ s15 (hna x hxp)), atI_nat (tv_at hv), fun g dx hg hd hne => ?_⟩
          refine ⟨D, g, t, dx, x, v, rfl, upd_same, (tr s15).mono (make_mono hg hd), hE, fun H' aO fs b h1 h2 h3 h4 h5 h6 => ⟨rfl, ?_⟩⟩
          obtain ⟨B', s', G'⟩ := make_end B5 hg hd hne (.inr (.inr (.inr (.inl rfl)))) b h1 h2 h3 h4 h5 h6
          exact q g _ H' B' (s15.trans s') G' (gr_branch hE)
        · exact hN _ _ ⟨rfl, B4, s4⟩
      · exact hN _ _ ⟨rfl, B3, s13⟩
end
end Tw
namespace Tw
open PySem PySem.Spec PyProof.Rows L2
/-- those groves that do not come again later -/
def lateG : List (Addr × List Str) → List (Addr × List Str)
  | [] => []
  | g :: r => if g.2 ∈ r.map Prod.snd then lateG r else g :: lateG r
theorem lateG_snd : ∀ l : List (Addr × List Str), (lateG l).map Prod.snd = TwM.late (l.map Prod.snd)
  | [] => rfl
  | g :: r => by
    unfold lateG
    rw [List.map_cons]
    unfold TwM.late
    by_cases h : g.2 ∈ r.map Prod.snd
    · rw [if_pos h, if_pos h]; exact lateG_snd r
    · rw [if_neg h, if_neg h, List.map_cons, lateG_snd r]
theorem lateG_sub : ∀ {l : List (Addr × List Str)} {p : Addr × List Str}, p ∈ lateG l → p ∈ l
  | g :: r, p, h => by
    unfold lateG at h
    split at h
    · exact List.mem_cons_of_mem _ (lateG_sub h)
    · rcases List.mem_cons.mp h with rfl | h
      · exact List.mem_cons_self
      · exact List.mem_cons_of_mem _ (lateG_sub h)
theorem lateG_len : ∀ l : List (Addr × List Str), (lateG l).length ≤ l.length
  | [] => Nat.le_refl _
  | g :: r => by
    have := lateG_len r
    unfold lateG
    split
    · rw [List.length_cons]; omega
    · rw [List.length_cons, List.length_cons]; omega
theorem dp_ones {K : PySem.W.Frag} {H : Hp} : ∀ n, DpAll K H (List.replicate n (V.int 1)) (List.replicate n (PyData.int 1))
  | 0 => .nil
  | n + 1 => .cons (.int 1) (dp_ones n)
theorem lay_ones : ∀ n, PyData.canLayAll0 (List.replicate n (PyData.int 1)) = true
  | 0 => rfl
  | n + 1 => by
    rw [List.replicate_succ]
    show (PyData.canLay0 (.int 1) && PyData.canLayAll0 (List.replicate n (PyData.int 1))) = true
    rw [lay_ones n]; rfl
theorem dep_ones : ∀ n, PyData.depthAll (List.replicate n (PyData.int 1)) = 0
  | 0 => rfl
  | n + 1 => by rw [List.replicate_succ]; simp [PyData.depthAll, PyData.depth, dep_ones n]
theorem shaped_ones (n : Nat) : SeqAt.shaped (.list (List.replicate n (PyData.int 1))) = true := by
  simp [SeqAt.shaped, PyData.canLay0, PyData.depth, lay_ones n, dep_ones n]
theorem eqv_ones (n : Nat) : PyData.eqv (.list (List.replicate n (PyData.int 1))) (.list []) = decide (n = 0) := by
  cases n with
  | zero => rfl
  | succ n => rfl
theorem map_ones {α : Type} (l : List α) : l.map (fun _ => V.int 1) = List.replicate l.length (V.int 1) := by
  rw [List.eq_replicate_iff]
  exact ⟨List.length_map _, fun b hb => by obtain ⟨_, _, rfl⟩ := List.mem_map.mp hb; rfl⟩
def spRow (a : Ads) : Sp := fun vs H Q _ => ∃ (D : TD) (bx gr m t l : Addr) (gs : List (Addr × List Str)), vs = [.ref bx, .ref m, .ref l] ∧ BoxAt H bx gr ∧ ModelAt D (Off bx gr H) m ∧ TreeAt a D (Off bx gr H) t ∧ GrovesAt a D (Off bx gr H) t l gs ∧ gs ≠ [] ∧ gs.length ≤ 1000 ∧
  ∀ H', BoxAt H' bx gr → Sty bx gr H H' → Q (.bl true) H'
section
variable {P : Program} {w : World} {K : PySem.W.Frag} {mg : Str → Option Value} {base : Heap} {a : Ads}
/-- == and != of two groves -/
theorem cmp_ans (T : Txt P K mg a) {D : TD} {t g1 g2 : Addr} {A B : List Str} {H : Hp} {Q : VK} {neg : Bool} (TA : TreeAt a D H t) (G1 : GroveAt a H t g1 A) (G2 : GroveAt a H t g2 B) (x : GrD D A) (y : GrD D B) (q : Q (.bl (if neg then !decide (A = B) else decide (A = B))) H) :
    rCmpI K a.f_GroveX_eqX (spGEq a) neg (.ref g1) (.ref g2) H Q := by
  obtain ⟨C1, dx1, o1, fs1, c1, h1, _⟩ := G1.ex
  obtain ⟨C2, dx2, o2, fs2, c2, h2, _⟩ := G2.ex
  refine ⟨g1, g2, C1, C2, dx1, dx2, fs1, fs2, rfl, rfl, h1, h2, T.geq _ c1, T.geq _ c2, T.gsub _ _ c1 c2, ⟨D, t, g1, g2, A, B, rfl, TA, G1, G2, fun z hz => x.sub hz, fun z hz => y.sub hz, _, rfl, q⟩, ⟨D, t, g2, g1, B, A, rfl, TA, G2, G1, fun z hz => y.sub hz, fun z hz => x.sub hz, _, rfl, ?_⟩⟩
  rw [show decide (B = A) = decide (A = B) from by rw [Bool.eq_iff_iff, decide_eq_true_iff, decide_eq_true_iff]; exact ⟨Eq.symm, Eq.symm⟩]
  exact q
/-- a call of a grove -/
theorem call_ans (T : Txt P K mg a) {D : TD} {t g : Addr} {S : List Str} {x : Str} {H : Hp} {Q : VK} (TA : TreeAt a D H t) (G : GroveAt a H t g S) (gs : GrD D S) (hx : x ∈ D.ps) (q : Q (.str (TwM.gate D.d S x)) H) :
    (∃ C dx fs, H g = some (.ins C dx fs) ∧ StX.CallO K C a.f_GroveX_callX) ∧ spGCall a (V.ref g :: [.str x]) H Q E0 := by
  obtain ⟨C1, dx1, o1, fs1, c1, h1, _⟩ := G.ex
  exact ⟨⟨C1, dx1, fs1, h1, T.gcall _ c1⟩, D, t, g, S, x, rfl, TA, G, gs, hx, q⟩
theorem ok__law_row_right (T : Txt P K mg a) : FnR P w K mg base CX0 6 a.f__law_row_right (spRow a) := by
  obtain ⟨fd, F⟩ := T.F__law_row_right
  have ok__law_composed := ok__law_composed (P := P) (w := w) (base := base) T
  have ok__law_bracketed := ok__law_bracketed (P := P) (w := w) (base := base) T
  have ok_GroveX_callX := ok_GroveX_callX (P := P) (w := w) (base := base) T
  have ok_GroveX_containsX := ok_GroveX_containsX (P := P) (w := w) (base := base) T
  have ok_GroveX_eqX := ok_GroveX_eqX (P := P) (w := w) (base := base) T
  have ok_GroveX_lenX := ok_GroveX_lenX (P := P) (w := w) (base := base) T
  have ok_Grove_bridge := ok_Grove_bridge (P := P) (w := w) (base := base) T
  refine okR F sc__law_row_right (fun vs H Q E h => ?_) (fun _ _ _ _ _ _ us hl => match us, hl with | [_, _, _], _ => rfl) (fun cdv A outer s0 H vs Q E hr h => ?_)
  · obtain ⟨D, bx, gr, m, t, l, gs, rfl, _⟩ := h
    rfl
  · obtain ⟨D, bx, gr, m, t, l, gs, rfl, B, MA, TA, GS, hne, hlen, q⟩ := h
    have hu := hu_of hr
    have n1 := D.small
    obtain ⟨aP, aE, nr, gA, hm, hP, _⟩ := MA.ex
    have gall : ∀ C ∈ gs.map Prod.snd, GrD D C := fun C hC => by
      obtain ⟨p, hp, rfl⟩ := List.mem_map.mp hC
      exact (GS.2 p hp).2
    refine ⟨_, (pss_cons (ps_set (i := 3) sc__law_row_right.nd rfl (Or.inl rfl) (cR T.g__law_composed ok__law_composed (hr.mono (by decide)) (by rfl) (pa_cons (pv 2) pa_nil)))
  (pss_cons (ps_for PassesOwn.never rfl (pi_tup (pe_dget hu (pv 1) pe_str (fun _ _ => rfl))) (pg_name (i := 4) sc__law_row_right.nd rfl (Or.inl rfl))
    (pss_cons (ps_set (i := 5) sc__law_row_right.nd rfl (Or.inl rfl) (pv 4))
  (pss_cons (ps_for PassesOwn.never rfl (pi_list (pv 2)) (pg_name (i := 6) sc__law_row_right.nd rfl (Or.inl rfl))
    (pss_one (ps_set (i := 5) sc__law_row_right.nd rfl (Or.inl rfl) (pe_callI (pv 6) ok_GroveX_callX (hr.mono (by decide)) (pa_cons (pv 5) pa_nil)))))
  (pss_one (ps_if (PW.pt (pw_or (pt_cmpR op_ne (pe_callI (pv 3) ok_GroveX_callX (hr.mono (by decide)) (pa_cons (pv 4) pa_nil)) (pv 5) (nomark _)) (pw_or1 (pt_cmpR (op_notInI T.fn_GroveX_containsX ok_GroveX_containsX (hr.mono (by decide))) (pv 5) (pv 3) (by rfl))))) (pss_one (ps_ret pe_bl)) pss_nil)))))
  (pss_cons (ps_if (pt_cmpR (op_neI T.fn_GroveX_eqX ok_GroveX_eqX (hr.mono (by decide))) (cR T.g__law_bracketed ok__law_bracketed (hr.mono (by decide)) (by rfl) (pa_cons (pv 0) (pa_cons (pv 2) pa_nil))) (pv 3) (nomark _)) (pss_one (ps_ret pe_bl)) pss_nil)
  (pss_cons (ps_setLc (i := 7) (own := [("_law_k", 9), ("_law_grove_here", 6)]) rfl sc__law_row_right.nd rfl rfl (sw_true rfl rfl rfl (by decide +kernel)) (pi_enum (by rfl) T.n_enumerate (pa_cons (pv 2) pa_nil)) (blkOk_by (own := [("_law_k", 9), ("_law_grove_here", 6)]) (N := N__law_row_right) (sc := (defScope s__law_row_right)) (by decide +kernel)) (fun _ _ _ _ _ => (pg_tupK (K := K) (n := 2) rfl rfl (pgs_cons (pg_name (i := 9) sc__law_row_right.nd rfl (Or.inl rfl)) (pgs_cons (pg_name (i := 6) sc__law_row_right.nd rfl (Or.inr rfl)) pgs_nil)))) (fun _ _ _ _ _ => (pts_one (pt_cmpR (op_eqDK (K := K) rfl hr.units) (pe_lc (own := [("_law_other", 10)]) rfl sc__law_row_right.nd (pi_listK (K := K) rfl (pe_slice (sl_listK (K := K) rfl) (pv 2) (po_some (pe_op op_add (pv 9) pe_int)) po_none)) (blkOk_by (own := [("_law_other", 10)]) (N := N__law_row_right) (sc := (relS _ (defScope s__law_row_right))) (by decide +kernel)) (fun _ _ _ _ _ => (pg_name (i := 10) sc__law_row_right.nd rfl (Or.inl rfl))) (fun _ _ _ _ _ => (pts_one (pt_cmpR (op_eqIK (K := K) rfl T.fn_GroveX_eqX ok_GroveX_eqX (hr.mono (by decide))) (pv 10) (pv 6) (nomark _)))) (fun _ _ _ _ _ => pe_int)) (pe_lst pa_nil) (nomark _)))) (fun _ _ _ _ _ => (pv 6)))
  (pss_cons (ps_if (pt_cmpR (op_neI T.fn_GroveX_eqX ok_GroveX_eqX (hr.mono (by decide))) (cR T.g__law_composed ok__law_composed (hr.mono (by decide)) (by rfl) (pa_cons (pv 7) pa_nil)) (pv 3) (nomark _)) (pss_one (ps_ret pe_bl)) pss_nil)
  (pss_cons (ps_setLc (i := 8) (own := [("_law_k", 9)]) rfl sc__law_row_right.nd rfl rfl (sw_true rfl rfl rfl (by decide +kernel)) (pi_range1 rfl T.n_range (pa_cons (pe_op op_sub (pe_callB call_len_seq (by rfl) T.n_len PySem.boot_len (pa_cons (pv 2) pa_nil)) pe_int) pa_nil)) (blkOk_by (own := [("_law_k", 9)]) (N := N__law_row_right) (sc := (defScope s__law_row_right)) (by decide +kernel)) (fun _ _ _ _ _ => (pg_name (i := 9) sc__law_row_right.nd rfl (Or.inl rfl))) (fun _ _ _ _ _ => (pts_one (pt_cmpR op_notN (pe_methGK (K := K) rfl (pe_ix (ix_listK (K := K) rfl) (pv 2) (pv 9) (fun _ _ => rfl)) ok_Grove_bridge (hr.mono (by decide)) T.k_Grove_bridge (pa_cons (pe_ix (ix_listK (K := K) rfl) (pv 2) (pe_op op_add (pv 9) pe_int) (fun _ _ => rfl)) pa_nil)) pe_non (nomark _)))) (fun _ _ _ _ _ => pe_int))
  (pss_one (ps_ret (pe_or (pe_cmpR (op_eqD hr.units) (pv 8) (pe_lst pa_nil) (nomark _)) (pe_one (pe_cmpR op_eq (pe_callB (call_lenI T.fn_GroveX_lenX ok_GroveX_lenX (hr.mono (by decide))) (by rfl) T.n_len PySem.boot_len (pa_cons (pv 3) pa_nil)) pe_int (nomark _)))))))))))), ?_⟩
    refine ⟨_, rfl, D, t, l, gs, rfl, TA.mono off_same, GS.mono off_same, hne, hlen, fun wg H1 e1 GW => ?_⟩
    have B1 := B.mono e1
    have s1 : Sty bx gr H H1 := Sty.of e1
    obtain ⟨⟨g0, S0⟩, gsr, egs⟩ := TwM.ne_cons hne
    have gW : GrD D (TwM.comp1 D.d (gs.map Prod.snd)) := by
      rw [egs] at gall ⊢
      exact TwM.comp_gr D.gt.tm D.gt.nd (gall S0 List.mem_cons_self) fun C hC => gall C (List.mem_cons_of_mem _ hC)
    have T1 : TreeAt a D H1 t := (TA.mono off_same).mono e1
    have G1 : GrovesAt a D H1 t l gs := (GS.mono off_same).mono e1
    have gates : ∀ x ∈ D.ps, TwM.gate D.d (TwM.comp1 D.d (gs.map Prod.snd)) x = (gs.map Prod.snd).foldl (fun y S => TwM.gate D.d S y) x := fun x hx => by
      rw [egs] at gall ⊢
      exact TwM.comp_gate D.gt.tm D.gt.nd (gall S0 List.mem_cons_self) (fun C hC => gall C (List.mem_cons_of_mem _ hC)) x hx
    generalize hWd : TwM.comp1 D.d (gs.map Prod.snd) = W at GW gW gates
    have hP1 : H1 aP = some (.tup (tv D.ps)) := e1 _ _ (off_same _ _ hP)
    have hm1 := e1 _ _ (off_same _ _ hm)
    -- every place
    refine ⟨_, rfl, m, _, rfl, dget hm1 md_places, aP, rfl, ⟨_, SqT.of hP1⟩, for_tup (K := K) (a := aP) (xs := tv D.ps) (fun i σ H' => H' = H1 ∧ ∃ u1 u2 u3 : Option V, σ = [some (.ref bx), some (.ref m), some (.ref l), some (.ref wg), u1, u2, u3, none, none, none, none]) ⟨rfl, _, _, _, rfl⟩ (fun i σ H' _ e => by rw [e.1]; exact SqT.of hP1) ?_ ?_⟩
    · rintro i v σ H2 hi ⟨rfl, u1, u2, u3, rfl⟩
      obtain ⟨x, hx, rfl⟩ := tv_get hi
      have hxp := List.mem_of_getElem? hx
      refine ⟨_, rfl, ?_⟩
      refine ⟨_, rfl, l, rfl, ⟨_, SqL.of G1.1⟩, for_list (K := K) (a := l) (xs := gs.map fun p => .ref p.1) (fun j σ H' => H' = H2 ∧ (((gs.take j).map Prod.snd).foldl (fun y S => TwM.gate D.d S y) x) ∈ D.ps ∧ ∃ u3 : Option V, σ = [some (.ref bx), some (.ref m), some (.ref l), some (.ref wg), some (.str x), some (.str (((gs.take j).map Prod.snd).foldl (fun y S => TwM.gate D.d S y) x)), u3, none, none, none, none])
        ⟨rfl, hxp, _, rfl⟩ (fun j σ H' _ e => by rw [e.1]; exact SqL.of G1.1) ?_ ?_⟩
      · rintro j v σ H3 hj ⟨rfl, hin, u3, rfl⟩
        rw [List.getElem?_map] at hj
        obtain ⟨⟨g, S⟩, hg, rfl⟩ := Option.map_eq_some_iff.mp hj
        have hgm := List.mem_of_getElem? hg
        have G := G1.2 _ hgm
        have et : gs.take (j + 1) = gs.take j ++ [(g, S)] := by
          obtain ⟨h1, h2⟩ := List.getElem?_eq_some_iff.mp hg
          rw [List.take_succ_eq_append_getElem h1, h2]
        refine ⟨_, rfl, g, rfl, _, rfl, call_ans T T1 G.1 G.2 hin ?_⟩
        rw [et, List.map_append, List.foldl_append]
        exact ⟨rfl, G.2.sub (TwM.gate_in D.gt.tm G.2 _), _, rfl⟩
      · rintro σ H3 ⟨rfl, hin, u3, rfl⟩
        rw [List.length_map, List.take_length] at hin ⊢
        rw [← gates x hxp] at hin ⊢
        refine ⟨_, rfl, wg, rfl, _, rfl, call_ans T T1 GW gW hxp ?_⟩
        refine ⟨_, rfl, rfl, _, rfl, ?_⟩
        rw [decide_eq_true rfl]
        refine iteF ?_
        obtain ⟨Cw, dxw, ow, fsw, cw, hw, _⟩ := GW.ex
        refine ⟨_, rfl, _, rfl, wg, Cw, dxw, fsw, rfl, hw, T.gin _ cw, t, wg, W, _, rfl, GW, _, rfl, _, rfl, ?_⟩
        rw [decide_eq_true (TwM.gate_in D.gt.tm gW x)]
        exact iteF ⟨rfl, _, _, _, rfl⟩
    · rintro σ H2 ⟨rfl, u1, u2, u3, rfl⟩
      -- bracketed
      refine ⟨_, rfl, _, rfl, D, bx, gr, t, l, gs, rfl, B1, TA.mono s1, GS.mono s1, hne, hlen, fun g2 H3 B3 s3 G2 => ?_⟩
      rw [hWd] at G2
      have s13 := s1.trans s3
      have T3 : TreeAt a D H3 t := (TA.mono s13).mono off_same
      have GW3 : GroveAt a H3 t wg W := ((GW.off B1).mono s3).mono off_same
      have G3 : GrovesAt a D H3 t l gs := (GS.mono s13).mono off_same
      refine ⟨_, rfl, cmp_ans T T3 (G2.mono off_same) GW3 gW gW ⟨_, rfl, ?_⟩⟩
      rw [decide_eq_true rfl]
      refine iteF ?_
      -- late
      refine ⟨_, rfl, l, _, rfl, SqL.of G3.1, fun L hL => lc_it walk_enum (fun i H' => Same H3 H' ∧ ∃ acc : List (Addr × List Str), H' L = some (.lst (acc.map fun p => .ref p.1)) ∧ acc.length ≤ i ∧ acc ++ lateG (gs.drop i) = lateG gs) ⟨same_upd hL, [], upd_same, Nat.le_refl _, rfl⟩ (fun i H' _ e => SqL.of (e.1 _ _ G3.1)) (fun i v H4 H4' hi e y => ?_) (fun H4 e => ?_)⟩
      · obtain ⟨e4, acc, hacc, la, eacc⟩ := e
        obtain ⟨T5, xv, yv, rfl, hT5, rfl, hxv, hyv⟩ := y
        obtain rfl := Option.some.inj hxv
        replace hyv : (gs.map fun p => V.ref p.1)[i]? = some yv := hyv
        rw [List.getElem?_map] at hyv
        obtain ⟨⟨g, S⟩, hg, rfl⟩ := Option.map_eq_some_iff.mp hyv
        rw [List.length_map] at hi
        have hgm := List.mem_of_getElem? hg
        have ed : gs.drop i = (g, S) :: gs.drop (i + 1) := by
          obtain ⟨h1, h2⟩ := List.getElem?_eq_some_iff.mp hg
          rw [← h2]; exact List.drop_eq_getElem_cons h1
        have e5 := same_upd (o := HO.tup [V.int (i : Nat), .ref g]) hT5
        refine ⟨T5, _, rfl, SqT.of upd_same, rfl, _, _, rfl, _, _, rfl, rfl, rfl, ?_⟩
        have e35 := e4.trans e5
        have hacc5 := e5 _ _ hacc
        generalize upd H4 T5 (HO.tup [V.int (i : Nat), .ref g]) = H5 at e5 e35 hacc5 ⊢
        refine ⟨_, rfl, _, rfl, _, _, rfl, rfl, _, rfl, l, _, rfl, SqL.of (e35 _ _ G3.1), fun p hp => ?_⟩
        have ecd : cutV (gs.map fun p => V.ref p.1) (some ((i : Int) + 1)) none = (gs.drop (i + 1)).map fun p => V.ref p.1 := by
          rw [List.map_drop]; exact cut_drop _ (i + 1)
        rw [ecd]
        have e6 := same_upd (o := HO.lst ((gs.drop (i + 1)).map fun p => V.ref p.1)) hp
        have hp6 : upd H5 p (HO.lst ((gs.drop (i + 1)).map fun p => V.ref p.1)) p = some (.lst ((gs.drop (i + 1)).map fun p => V.ref p.1)) := upd_same
        generalize upd H5 p (HO.lst ((gs.drop (i + 1)).map fun p => V.ref p.1)) = H6 at e6 hp6 ⊢
        have e36 := e35.trans e6
        have Gd := fun q (hq : q ∈ gs.drop (i + 1)) => G3.2 q (List.mem_of_mem_drop hq)
        refine ⟨p, rfl, ⟨_, SqL.of hp6⟩, fun D2 hD2 => lc_sel (l := gs.drop (i + 1)) (mk := fun p => .ref p.1) (fun q => decide (q.2 = S)) (fun _ => .int 1) walk_list (fun H' e => SqL.of (e _ _ hp6)) (by rw [List.length_drop]; omega) hD2 (fun z hz H7 e N1 N2 n => ?_) (fun H7 e7 hD7 => ?_)⟩
        · have e37 := e36.trans e
          refine ⟨rfl, _, rfl, _, rfl, cmp_ans T (T3.mono e37) ((Gd z hz).1.mono e37) ((G3.2 _ hgm).1.mono e37) (Gd z hz).2 (G3.2 _ hgm).2 ⟨_, rfl, ?_⟩⟩
          refine ite2 (fun hc => ?_) (fun hc => ?_)
          · exact (n H7 fun _ _ z => z).2 hc
          · exact (n H7 fun _ _ z => z).1 (Bool.eq_false_iff.mpr hc)
        · rw [map_ones] at hD7
          refine ⟨by show 0 ≤ sizeLine; decide, fun eA heA => ?_⟩
          have e8 := same_upd (o := HO.lst []) heA
          refine ⟨_, _, .lst (SqL.of (e8 _ _ hD7)) (dp_ones _), .lst (SqL.of upd_same) .nil, shaped_ones _, shaped_ones 0, _, rfl, ?_⟩
          rw [eqv_ones]
          have e58 := (e6.trans e7).trans e8
          have hacc8 := e58 _ _ hacc5
          have e38 := e35.trans e58
          refine ite2 (fun hc => ?_) (fun hc => ?_)
          · have h0 := List.filter_eq_nil_iff.mp (List.eq_nil_of_length_eq_zero (of_decide_eq_true hc))
            have hnot : S ∉ (gs.drop (i + 1)).map Prod.snd := fun hz => by
              obtain ⟨z, hz, e⟩ := List.mem_map.mp hz
              exact h0 z hz (decide_eq_true e)
            refine ⟨_, rfl, _, hacc8, by rw [List.length_map]; exact sz_small (by omega), fun b o h => ?_, acc ++ [(g, S)], ?_, by rw [List.length_append]; show _ + 1 ≤ _; omega, ?_⟩
            · rw [upd_ne (ne_of_none h hL)]; exact e38 _ _ h
            · rw [upd_same, List.map_append]; rfl
            · rw [← eacc, ed]
              show acc ++ [(g, S)] ++ _ = acc ++ (if S ∈ (gs.drop (i + 1)).map Prod.snd then _ else _)
              rw [if_neg hnot, List.append_assoc]; rfl
          · have hin : S ∈ (gs.drop (i + 1)).map Prod.snd := by
              cases hf : (gs.drop (i + 1)).filter (fun q => decide (q.2 = S)) with
              | nil => rw [hf] at hc; exact absurd rfl hc
              | cons z r =>
                have hz : z ∈ (gs.drop (i + 1)).filter (fun q => decide (q.2 = S)) := by rw [hf]; exact List.mem_cons_self
                obtain ⟨h1, h2⟩ := List.mem_filter.mp hz
                exact List.mem_map.mpr ⟨z, h1, of_decide_eq_true h2⟩
            refine ⟨e38, acc, hacc8, by omega, ?_⟩
            rw [← eacc, ed]
            show acc ++ _ = acc ++ (if S ∈ (gs.drop (i + 1)).map Prod.snd then _ else _)
            rw [if_pos hin]
      · obtain ⟨e4, acc, hacc, la, eacc⟩ := e
        rw [List.length_map, List.drop_length] at eacc
        obtain rfl : acc = lateG gs := by rw [← eacc]; exact (List.append_nil _).symm
        have T4 := T3.mono e4
        have GL : GrovesAt a D H4 t L (lateG gs) := ⟨hacc, fun p hp => ⟨((G3.2 p (lateG_sub hp)).1).mono e4, (G3.2 p (lateG_sub hp)).2⟩⟩
        have hLne : lateG gs ≠ [] := fun z => by
          have h1 : (lateG gs).map Prod.snd = TwM.late (gs.map Prod.snd) := lateG_snd gs
          rw [z] at h1
          exact TwM.late_ne (l := gs.map Prod.snd) (by rw [egs]; simp) h1.symm
        have hLl := lateG_len gs
        refine ⟨_, rfl, D, t, L, lateG gs, rfl, T4, GL, hLne, by omega, fun cg H5 e5 GC => ?_⟩
        rw [lateG_snd, TwM.comp1_late D.gt.tm D.gt.nd gall, hWd] at GC
        have e35 := e4.trans e5
        have T5 := T3.mono e35
        have GW5 := GW3.mono e35
        have G5 := G3.mono e35
        refine ⟨_, rfl, cmp_ans T T5 GC GW5 gW gW ⟨_, rfl, ?_⟩⟩
        rw [decide_eq_true rfl]
        refine iteF ?_
        -- alone
        have glen : 1 ≤ gs.length := List.length_pos_iff.mpr hne
        refine ⟨_, rfl, l, _, rfl, .inl (SqL.of G5.1), _, _, rfl, rfl, _, rfl, by rw [List.length_map]; omega, by rw [List.length_map]; omega, fun D6 hD6 => ?_⟩
        rw [List.length_map, show ((gs.length : Int) - 1).toNat = gs.length - 1 by omega]
        refine lc_it walk_range (fun i H' => Same H5 H' ∧ ∃ n, H' D6 = some (.lst (List.replicate n (V.int 1))) ∧ n ≤ i ∧ (n ≠ 0 → W.length = 1)) ⟨same_upd hD6, 0, upd_same, Nat.le_refl _, fun z => absurd rfl z⟩ (fun _ _ _ _ => True.intro) (fun i v H6 H6' hi e y => ?_) (fun H6 e => ?_)
        · obtain ⟨e6, n, hn, ln, hW1⟩ := e
          obtain ⟨rfl, rfl⟩ := y
          rw [show (fun i : Nat => V.int (0 + (i : Int))) i = V.int (i : Int) from by show V.int (0 + (i : Int)) = _; rw [Int.zero_add]]
          have hi1 : i + 1 < gs.length := by omega
          obtain ⟨⟨ga, SA⟩, hA⟩ : ∃ y, gs[i]? = some y := ⟨_, List.getElem?_eq_getElem (by omega)⟩
          obtain ⟨⟨gb, SB⟩, hB⟩ : ∃ y, gs[i + 1]? = some y := ⟨_, List.getElem?_eq_getElem hi1⟩
          have GA := G5.2 _ (List.mem_of_getElem? hA)
          have GB := G5.2 _ (List.mem_of_getElem? hB)
          have GA6 := GA.1.mono e6
          have GB6 := GB.1.mono e6
          have hl6 := e6 _ _ G5.1
          obtain ⟨CA, dxA, oA, fsA, cA, hA6, _, _, _, hbr, _⟩ := GA6.ex
          refine ⟨rfl, _, rfl, _, rfl, l, _, _, _, rfl, rfl, SqL.of hl6, atI_nat (j := i) (by rw [List.getElem?_map, hA]; rfl), ga, CA, dxA, fsA, rfl, hA6, T.gcl _ cA, T.gm_bridge _ cA, hbr, ?_⟩
          refine ⟨_, rfl, _, rfl, _, _, rfl, rfl, l, _, _, _, rfl, rfl, SqL.of hl6, atI_nat (j := i + 1) (by rw [List.getElem?_map, hB]; rfl), D, t, ga, gb, SA, SB, rfl, T5.mono e6, GA6, GB6, GA.2, GB.2, fun v H7 e7 hv => ?_⟩
          refine ⟨rfl, _, rfl, ?_⟩
          have hn7 := e7 _ _ hn
          refine ite2 (fun hc => ?_) (fun hc => ?_)
          · have hvn : v ≠ .non := fun z => by rw [decide_eq_true z] at hc; cases hc
            have hap : TwM.cap SA SB = [] := by
              by_cases z : TwM.cap SA SB = []
              · exact z
              · exact absurd (hv.mpr z) hvn
            refine ⟨_, hn7, by rw [List.length_replicate]; exact sz_small (by omega), fun b o h => ?_, n + 1, ?_, by omega, fun _ => ?_⟩
            · rw [upd_ne (ne_of_none h hD6)]; exact e7 _ _ (e6 _ _ h)
            · rw [upd_same, List.replicate_succ']
            · have hsplit : gs.map Prod.snd = (gs.take i).map Prod.snd ++ SA :: SB :: (gs.drop (i + 2)).map Prod.snd := by
                have e1 : gs.drop i = (ga, SA) :: gs.drop (i + 1) := by
                  obtain ⟨q1, q2⟩ := List.getElem?_eq_some_iff.mp hA
                  rw [← q2]; exact List.drop_eq_getElem_cons q1
                have e2 : gs.drop (i + 1) = (gb, SB) :: gs.drop (i + 2) := by
                  obtain ⟨q1, q2⟩ := List.getElem?_eq_some_iff.mp hB
                  rw [← q2]; exact List.drop_eq_getElem_cons q1
                conv => lhs; rw [← List.take_append_drop i gs, e1, e2]
                rw [List.map_append, List.map_cons, List.map_cons]
              rw [← hWd, hsplit]
              refine TwM.comp1_apart D.gt.tm D.gt.nd (fun C hC => ?_) hap
              rw [← hsplit] at hC
              exact gall C hC
          · exact ⟨e6.trans e7, n, hn7, by omega, hW1⟩
        · obtain ⟨e6, n, hn, ln, hW1⟩ := e
          refine ⟨_, rfl, by show 0 ≤ sizeLine; decide, fun eA heA => ?_⟩
          have e7 := same_upd (o := HO.lst []) heA
          have s17 : Sty bx gr H (upd H6 eA (HO.lst [])) := s13.trans (Sty.of ((e35.trans e6).trans e7))
          have B7 : BoxAt (upd H6 eA (HO.lst [])) bx gr := B3.mono ((e35.trans e6).trans e7)
          refine ⟨_, _, .lst (SqL.of (e7 _ _ hn)) (dp_ones _), .lst (SqL.of upd_same) .nil, shaped_ones _, shaped_ones 0, _, rfl, ?_⟩
          rw [eqv_ones]
          refine ite2 (fun hc => ?_) (fun hc => ?_)
          · exact q _ B7 s17
          · have hn0 : n ≠ 0 := fun z => hc (decide_eq_true z)
            have GW7 := GW5.mono (e6.trans e7)
            obtain ⟨Cw, dxw, ow, fsw, cw, hw, _⟩ := GW7.ex
            refine ⟨_, rfl, wg, Cw, dxw, fsw, rfl, hw, T.glen _ cw, t, wg, W, rfl, GW7, _, rfl, by omega, by rw [hW1 hn0]; decide, rfl, ?_⟩
            rw [hW1 hn0]
            exact q _ B7 s17
end
end Tw
namespace Tw
open PySem PySem.Spec PyProof.Rows L2
theorem atI_last {α : Type} {xs : List α} {v : α} (h0 : xs ≠ []) (h : xs[xs.length - 1]? = some v) : atI xs (-1) = some v := by
  have hp := List.length_pos_iff.mpr h0
  unfold atI ixN
  rw [if_neg (by decide), if_pos (by omega)]
  show xs[((-1 : Int) + xs.length).toNat]? = some v
  rw [show ((-1 : Int) + (xs.length : Int)).toNat = xs.length - 1 by omega]
  exact h
def GrE (a : Ads) (D : TD) (bx gr t : Addr) (v : V) (H : Hp) : Prop := ∃ g S, v = .ref g ∧ GroveAt a (Off bx gr H) t g S ∧ GrD D S
theorem groves_of {a : Ads} {D : TD} {bx gr t : Addr} {H : Hp} : ∀ {ys : List V}, (∀ (i : Nat) v, ys[i]? = some v → GrE a D bx gr t v H) → ∃ gs : List (Addr × List Str), ys = gs.map (fun p => .ref p.1) ∧ gs.length = ys.length ∧ ∀ p ∈ gs, GroveAt a (Off bx gr H) t p.1 p.2 ∧ GrD D p.2
  | [], _ => ⟨[], rfl, rfl, fun c h => by simp at h⟩
  | y :: r, h => by
    obtain ⟨g, S, e, h1, h2⟩ := h 0 y rfl
    obtain ⟨gs, e1, e2, e3⟩ := groves_of (ys := r) fun i v hv => h (i + 1) v hv
    exact ⟨(g, S) :: gs, by rw [e, e1]; rfl, by rw [List.length_cons, List.length_cons, e2], fun d hd => by
      rcases List.mem_cons.mp hd with rfl | hd
      · exact ⟨h1, h2⟩
      · exact e3 d hd⟩
theorem GroveAt.lst {a : Ads} {H : Hp} {bx gr t g L : Addr} {S : List Str} {acc acc' : List V} (hL : H L = some (.lst acc)) (G : GroveAt a (Off bx gr H) t g S) : GroveAt a (Off bx gr (upd H L (.lst acc'))) t g S := by
  obtain ⟨C, dx, aO, fs, h0, h1, h2, h3, h4, h5⟩ := G.ex
  have key : ∀ {b : Addr} {o : HO}, Off bx gr H b = some o → (∀ l, o ≠ .lst l) → Off bx gr (upd H L (.lst acc')) b = some o := fun h no => by
    obtain ⟨q1, q2, q3⟩ := off_some h
    rw [off_eq q1 q2, upd_ne (fun z => by rw [z, hL] at q3; exact no _ (Option.some.inj q3).symm)]
    exact q3
  exact ⟨C, dx, aO, fs, h0, key h1 (fun _ z => by cases z), h2, h3, key h4 (fun _ z => by cases z), h5⟩
def spLaw (K : PySem.W.Frag) : Sp := fun vs H Q _ => ∃ (s : Addr) (xs : List Int), vs = [.ref s] ∧ SqL K H s (xs.map V.int) ∧ xs.length ≤ 1000 ∧ ∀ H', Q (.bl true) H'
section
variable {P : Program} {w : World} {K : PySem.W.Frag} {mg : Str → Option Value} {base : Heap} {a : Ads}
theorem ok_law (T : Txt P K mg a) {fd : FuncData} (F : Fun K "law" "law" s_law a.f_law fd) : FnOk P w K mg base CX0 7 a.f_law fd ["_law_script"] (spLaw K) := by
  have ok__law_box := ok__law_box (P := P) (w := w) (base := base) T
  have ok__law_size := ok__law_size (P := P) (w := w) (base := base) T
  have ok__law_take := ok__law_take (P := P) (w := w) (base := base) T
  have ok__law_ground := ok__law_ground (P := P) (w := w) (base := base) T
  have ok__law_shape := ok__law_shape (P := P) (w := w) (base := base) T
  have ok__law_row_right := ok__law_row_right (P := P) (w := w) (base := base) T
  have ok_TreeX_initX := ok_TreeX_initX (P := P) (w := w) (base := base) T
  have ok_Grove_sources := ok_Grove_sources (P := P) (w := w) (base := base) T
  have ok_GroveX_containsX := ok_GroveX_containsX (P := P) (w := w) (base := base) T
  have ok_GroveX_callX := ok_GroveX_callX (P := P) (w := w) (base := base) T
  refine F.ok sc_law (fun vs H Q E h => ?_) (fun cdv A outer s0 H vs Q E hr h => ?_)
  · obtain ⟨s, xs, rfl, _⟩ := h
    rfl
  · obtain ⟨s, xs, rfl, hs, hn, q⟩ := h
    have hu := hu_of hr
    refine ⟨_, (pss_cons (ps_set (i := 1) sc_law.nd rfl (Or.inr rfl) (cR T.g__law_box ok__law_box (hr.mono (by decide)) (by rfl) (pa_cons (pv 0) (pa_cons pe_int pa_nil))))
  (pss_cons (ps_for PassesOwn.never rfl (pi_range1 rfl T.n_range (pa_cons pe_int pa_nil)) (pg_name (i := 2) sc_law.nd rfl (Or.inl rfl))
    (pss_cons (ps_set (i := 3) sc_law.nd rfl (Or.inr rfl) (cR T.g__law_ground ok__law_ground (hr.mono (by decide)) (by rfl) (pa_cons (pv 1) (pa_cons (cR T.g__law_size ok__law_size (hr.mono (by decide)) (by rfl) (pa_cons (pv 1) pa_nil)) pa_nil))))
  (pss_cons (ps_set (i := 4) sc_law.nd rfl (Or.inr rfl) (StX.pe_makeR T.mk_Tree ok_TreeX_initX (hr.mono (by decide)) (by rfl) T.mg_Tree pass0 (pa_cons (pe_dget hu (pv 3) pe_str (fun _ _ => rfl)) (pa_cons (pe_dget hu (pv 3) pe_str (fun _ _ => rfl)) pa_nil))))
  (pss_cons (ps_setLc (i := 5) (own := [("_law_more", 9)]) rfl sc_law.nd rfl rfl (sw_true rfl rfl rfl (by decide +kernel)) (pi_range1 rfl T.n_range (pa_cons (pe_op op_add pe_int (cR T.g__law_take ok__law_take (hr.mono (by decide)) (by rfl) (pa_cons (pv 1) (pa_cons pe_int pa_nil)))) pa_nil)) (blkOk_by (own := [("_law_more", 9)]) (N := N_law) (sc := (defScope s_law)) (by decide +kernel)) (fun _ _ _ _ _ => (pg_name (i := 9) sc_law.nd rfl (Or.inl rfl))) (fun _ _ _ _ _ => pts_nil) (fun _ _ _ _ _ => (cR T.g__law_shape ok__law_shape (hr.mono (by decide)) (by rfl) (pa_cons (pv 1) (pa_cons (pv 3) (pa_cons (pv 4) pa_nil))))))
  (pss_cons (ps_expr (pe_bm PySem.F.plainAttrs_list PySem.F.slot_list_append PySem.F.type_list_append mt_append (pv 5) (pa_cons (pe_ix ix_list (pv 5) (cR T.g__law_take ok__law_take (hr.mono (by decide)) (by rfl) (pa_cons (pv 1) (pa_cons (pe_callB call_len_seq (by rfl) T.n_len PySem.boot_len (pa_cons (pv 5) pa_nil)) pa_nil))) (fun _ _ => rfl)) pa_nil)))
  (pss_cons (ps_if (pt_not (pt_val (cR T.g__law_row_right ok__law_row_right (hr.mono (by decide)) (by rfl) (pa_cons (pv 1) (pa_cons (pv 3) (pa_cons (pv 5) pa_nil)))))) (pss_one (ps_ret pe_bl)) pss_nil)
  (pss_cons (ps_asg (pe_tup (pa_cons (pe_ix ix_list (pv 5) pe_int (fun _ _ => rfl)) (pa_cons (pe_ix ix_list (pv 5) (pe_un un_neg pe_int) (fun _ _ => rfl)) pa_nil))) (pg_tup rfl (pgs_cons (pg_name (i := 6) sc_law.nd rfl (Or.inr rfl)) (pgs_cons (pg_name (i := 7) sc_law.nd rfl (Or.inr rfl)) pgs_nil))))
  (pss_cons (ps_set (i := 8) sc_law.nd rfl (Or.inr rfl) (pe_methG (pv 6) ok_Grove_sources (hr.mono (by decide)) T.k_Grove_sources (pa_cons (pv 7) pa_nil)))
  (pss_one (ps_if (pt_cmpR (op_neD hr.units) (pe_lc (own := [("_law_place", 10)]) rfl sc_law.nd (pi_tup (pe_dget hu (pv 3) pe_str (fun _ _ => rfl))) (blkOk_by (own := [("_law_place", 10)]) (N := N_law) (sc := (defScope s_law)) (by decide +kernel)) (fun _ _ _ _ _ => (pg_name (i := 10) sc_law.nd rfl (Or.inl rfl))) (fun _ _ _ _ _ => (pts_one (pt_cmpR op_ne (pe_cmpR (op_inIK (K := K) rfl T.fn_GroveX_containsX ok_GroveX_containsX (hr.mono (by decide))) (pv 10) (pv 8) (by rfl)) (pe_cmpR (op_inIK (K := K) rfl T.fn_GroveX_containsX ok_GroveX_containsX (hr.mono (by decide))) (pe_callIK (K := K) rfl (pv 7) ok_GroveX_callX (hr.mono (by decide)) (pa_cons (pv 10) pa_nil)) (pv 6) (by rfl)) (nomark _)))) (fun _ _ _ _ _ => (pv 10))) (pe_lst pa_nil) (nomark _)) (pss_one (ps_ret pe_bl)) pss_nil))))))))))
  (pss_one (ps_ret pe_bl)))), ?_⟩
    refine ⟨_, rfl, s, xs, rfl, hs, hn, fun bx gr H1 B1 e1 hb hg => ?_⟩
    refine ⟨2, rfl, by decide, by decide, ?_⟩
    refine for_range (fun i σ H' => BoxAt H' bx gr ∧ ∃ u1 u2 u3 u4 u5 u6 u7 : Option V, σ = [some (.ref s), some (.ref bx), u1, u2, u3, u4, u5, u6, u7, none, none]) ⟨B1, _, _, _, _, _, _, _, rfl⟩ ?_ ?_
    · rintro i σ H2 hi ⟨B2, u1, u2, u3, u4, u5, u6, u7, rfl⟩
      -- the model
      refine ⟨_, rfl, _, rfl, bx, gr, rfl, B2, fun n H3 hn3 B3 s3 => ?_⟩
      refine ⟨bx, gr, n, rfl, B3, by omega, by omega, fun D m H4 B4 s4 MA => ?_⟩
      have n1 := D.small
      obtain ⟨aP, aE, nr, gA, hm, hP, hE, hN⟩ := MA.ex
      -- the tree
      refine ⟨_, rfl, m, _, rfl, dget (off_same _ _ hm) md_places, _, rfl, m, _, rfl, dget (off_same _ _ hm) md_edges, fun t dx ht hd hne => ?_⟩
      have mm := make_mono (C := a.c_Tree) ht hd
      refine ⟨D, t, aP, aE, dx, rfl, upd_same, mm _ _ (off_same _ _ hP), (hE.mono off_same).mono mm, fun H5 b5 TN => ⟨rfl, ?_⟩⟩
      have e5 : Same H4 H5 := fun c o h => b5 c o (mm _ _ h) (ne_of_none h ht)
      have B5 := B4.mono e5
      have htb := B4.fresh ht
      have hPb := off_some hP
      have TA : TreeAt a D (Off bx gr H5) t := TN.mono fun c o h => by
        obtain ⟨h1, h2⟩ := Nw.some h
        refine off_at h2 ?_
        rcases h1 with h1 | h1 | h1
        · exact (B4.mono mm).fresh h1
        · rw [h1]; exact htb
        · rw [h1]; exact ⟨hPb.1, hPb.2.1⟩
      have MA5 := MA.mono (Sty.of (bx := bx) (gr := gr) e5)
      -- the groves
      refine ⟨_, rfl, bx, gr, 5, rfl, B5, by decide, by decide, fun r H6 r0 r1 B6 s6 => ?_⟩
      refine ⟨_, _, rfl, rfl, 3 + r, rfl, by omega, by omega, fun L hL => ?_⟩
      have MA6 := MA5.mono s6
      have TA6 := TA.mono s6
      have hLb := B6.fresh hL
      refine lc_drw (bx := bx) (gr := gr) walk_range (fun _ v H' => GrE a D bx gr t v H') (fun _ _ _ _ st ⟨g, S, h1, h2, h3⟩ => ⟨g, S, h1, h2.mono st, h3⟩) (fun _ _ _ _ _ hD ⟨g, S, h1, h2, h3⟩ => ⟨g, S, h1, h2.lst hD, h3⟩) (fun _ _ => True.intro) (by omega) B6 hL (fun i v H7 H7' hi7 B7 s7 _ y N n => ?_) (fun ys H7 B7 s7 hl7 hys hL7 => ?_)
      · obtain ⟨rfl, rfl⟩ := y
        refine ⟨rfl, _, rfl, _, rfl, _, rfl, D, bx, gr, m, t, rfl, B7, MA6.mono s7, TA6.mono s7, fun g S H8 B8 s8 G8 gd => ?_⟩
        exact n _ _ B8 s8 ⟨g, S, rfl, G8, gd⟩
      · obtain ⟨gs, rfl, hgl, hgs⟩ := groves_of hys
        have glen : 3 ≤ gs.length ∧ gs.length ≤ 7 := by omega
        have MA7 := MA6.mono s7
        have TA7 := TA6.mono s7
        -- one of them again
        refine ⟨_, rfl, .inl ⟨rfl, _, SqL.of hL7⟩, _, rfl, _, rfl, _, rfl, L, _, rfl, .inl (SqL.of hL7), bx, gr, _, rfl, B7, by rw [List.length_map]; omega, by rw [List.length_map]; omega, fun r8 H8 r80 r81 B8 s8 => ?_⟩
        rw [List.length_map] at r81
        obtain ⟨k, rfl⟩ : ∃ k : Nat, r8 = k := ⟨r8.toNat, by omega⟩
        obtain ⟨⟨gk, Sk⟩, hk⟩ : ∃ y, gs[k]? = some y := ⟨_, List.getElem?_eq_getElem (by omega)⟩
        have hL8 := s8.at hL7 hLb
        refine ⟨L, _, _, _, rfl, rfl, SqL.of hL8, atI_nat (j := k) (by rw [List.getElem?_map, hk]; rfl), L, _, _, rfl, rfl, hL8, by rw [List.length_map]; exact sz_small (by omega), ?_⟩
        have hgs8 : ∀ p ∈ gs, GroveAt a (Off bx gr H8) t p.1 p.2 ∧ GrD D p.2 := fun p hp => ⟨(hgs p hp).1.mono s8, (hgs p hp).2⟩
        have hL9 : upd H8 L (HO.lst ((gs.map fun p => V.ref p.1) ++ [V.ref gk])) L = some (.lst ((gs ++ [(gk, Sk)]).map fun p => V.ref p.1)) := by rw [upd_same, List.map_append]; rfl
        have B9 : BoxAt (upd H8 L (HO.lst ((gs.map fun p => V.ref p.1) ++ [V.ref gk]))) bx gr := B8.upd hLb
        have s69 : Sty bx gr H6 (upd H8 L (HO.lst ((gs.map fun p => V.ref p.1) ++ [V.ref gk]))) := (s7.trans s8).upd hL
        have hgs9 : ∀ p ∈ gs ++ [(gk, Sk)], GroveAt a (Off bx gr (upd H8 L (HO.lst ((gs.map fun p => V.ref p.1) ++ [V.ref gk])))) t p.1 p.2 ∧ GrD D p.2 := fun p hp => by
          rcases List.mem_append.mp hp with hp | hp
          · exact ⟨(hgs8 p hp).1.lst hL8, (hgs8 p hp).2⟩
          · obtain rfl := List.mem_singleton.mp hp
            have := hgs8 _ (List.mem_of_getElem? hk)
            exact ⟨this.1.lst hL8, this.2⟩
        generalize upd H8 L (HO.lst ((gs.map fun p => V.ref p.1) ++ [V.ref gk])) = H9 at hL9 B9 s69 hgs9 ⊢
        have MA9 := MA6.mono s69
        have TA9 := TA6.mono s69
        -- the row
        refine ⟨_, rfl, _, rfl, _, rfl, D, bx, gr, m, t, L, gs ++ [(gk, Sk)], rfl, B9, MA9, TA9, ⟨off_at hL9 hLb, hgs9⟩, by simp, by rw [List.length_append]; show _ + 1 ≤ _; omega, fun H10 B10 s10 => ⟨_, rfl, iteF ?_⟩⟩
        have hL10 := s10.at hL9 hLb
        have MA10 := MA9.mono s10
        have TA10 := (TA9.mono s10).mono off_same
        obtain ⟨⟨g0, S0⟩, gr0, egs⟩ : ∃ y r, gs = y :: r := TwM.ne_cons (fun z => by rw [z] at glen; simp at glen)
        have G0 := hgs9 (g0, S0) (by rw [egs]; simp)
        have GK := hgs9 (gk, Sk) (by simp)
        have elast : ((gs ++ [(gk, Sk)]).map fun p => V.ref p.1)[((gs ++ [(gk, Sk)]).map fun p => V.ref p.1).length - 1]? = some (.ref gk) := by
          rw [List.length_map, List.length_append, List.getElem?_map]
          show ((gs ++ [(gk, Sk)])[gs.length + 1 - 1]?).map _ = _
          rw [Nat.add_sub_cancel, List.getElem?_append_right (Nat.le_refl _), Nat.sub_self]
          rfl
        -- one, other
        refine ⟨_, rfl, L, _, _, _, rfl, rfl, SqL.of hL10, atI_nat (j := 0) (v := .ref g0) (by rw [egs]; rfl), _, rfl, _, rfl, L, _, _, _, rfl, rfl, SqL.of hL10, atI_last (by simp) elast, by show 2 ≤ sizeLine; decide, fun tp htp => ⟨tp, _, rfl, SqT.of upd_same, rfl, _, _, rfl, _, _, rfl, rfl, ?_⟩⟩
        have e11 := same_upd (o := HO.tup [V.ref g0, .ref gk]) htp
        have B11 := B10.mono e11
        have s11 := s10.trans (Sty.of e11)
        have G01 := (G0.1.mono s11).mono off_same
        have GK1 := (GK.1.mono s11).mono off_same
        have TA11 := TA10.mono e11
        have MA11 := MA9.mono s11
        generalize upd H10 tp (HO.tup [V.ref g0, .ref gk]) = H11 at e11 B11 s11 G01 GK1 TA11 MA11 ⊢
        -- the sources
        obtain ⟨C0, dx0, o0, fs0, c0, h0, _, _, _, _, hso⟩ := G01.ex
        refine ⟨_, rfl, g0, C0, dx0, fs0, rfl, h0, T.gcl _ c0, T.gm_sources _ c0, hso, _, rfl, D, t, g0, gk, S0, Sk, rfl, TA11, G01, GK1, G0.2, GK.2, fun so H12 e12 GS => ?_⟩
        have B12 := B11.mono e12
        have TA12 := TA11.mono e12
        have G02 := G01.mono e12
        have GK2 := GK1.mono e12
        obtain ⟨aP', aE', nr', gA', hm', hP', _⟩ := MA11.ex
        have hm12 := e12 _ _ (off_same _ _ hm')
        have hP12 := e12 _ _ (off_same _ _ hP')
        refine ⟨_, rfl, m, _, rfl, dget hm12 md_places, aP', rfl, ⟨_, SqT.of hP12⟩, fun B13 hB13 => lc_pick (i := 10) (l := D.ps) (fun _ => false) (walk_tup (K := K) (a := aP')) (fun H' e => SqT.of (e _ _ hP12)) (by omega) hB13 (fun _ => rfl) (fun _ => rfl) (fun z hz H' R e r => ?_) ?_⟩
        · have GS' := GS.mono e
          have GK' := GK2.mono e
          have G0' := G02.mono e
          obtain ⟨Cs, dxs, os, fss, cs, hss, _⟩ := GS'.ex
          obtain ⟨C00, dx00, o00, fs00, c00, h00, _⟩ := G0'.ex
          refine ⟨_, rfl, _, rfl, so, Cs, dxs, fss, rfl, hss, T.gin _ cs, t, so, _, z, rfl, GS', _, rfl, ?_⟩
          refine ⟨_, rfl, gk, rfl, _, rfl, call_ans T (TA12.mono e) GK' GK.2 hz ?_⟩
          refine ⟨_, rfl, g0, C00, dx00, fs00, rfl, h00, T.gin _ c00, t, g0, S0, _, rfl, G0', _, rfl, ?_⟩
          refine ⟨rfl, _, rfl, ?_⟩
          have eb : decide (z ∈ D.ps.filter fun x => decide (TwM.gate D.d Sk x ∈ S0)) = decide (TwM.gate D.d Sk z ∈ S0) := by
            rw [Bool.eq_iff_iff, decide_eq_true_iff, decide_eq_true_iff, List.mem_filter, decide_eq_true_iff]
            exact ⟨fun h => h.2, fun h => ⟨hz, h⟩⟩
          show R (!decide (V.bl (decide (z ∈ D.ps.filter fun x => decide (TwM.gate D.d Sk x ∈ S0))) = V.bl (decide (TwM.gate D.d Sk z ∈ S0)))) H'
          rw [eb, decide_eq_true rfl]
          exact r
        · have e0 : D.ps.filter (fun _ => false) = [] := List.filter_eq_nil_iff.mpr fun _ _ => by decide
          rw [e0]
          refine ⟨by show 0 ≤ sizeLine; decide, fun e14 he14 => ?_⟩
          have e15 := same_upd (o := HO.lst []) he14
          have hB15 : upd (upd H12 B13 (HO.lst (tv []))) e14 (HO.lst []) B13 = some (.lst []) := e15 _ _ upd_same
          have B15 := (B12.mono (same_upd (o := HO.lst (tv [])) hB13)).mono e15
          refine ⟨_, _, .lst (SqL.of hB15) .nil, .lst (SqL.of upd_same) .nil, shaped_ones 0, shaped_ones 0, _, rfl, iteF ?_⟩
          exact ⟨B15, _, _, _, _, _, _, _, rfl⟩
    · rintro σ H2 ⟨B2, u1, u2, u3, u4, u5, u6, u7, rfl⟩
      exact q H2
end
end Tw
/-! the head: what the top leaves, told by a Hook -/
namespace Tw
open PySem PySem.Spec PyProof.Rows L2
abbrev R : PySem.W.OpenRow := PySem.W.OpenLaw.row PySem.Challenge.rw_towgrove_k72_whole_many_groves_in_a_row
def pFile : Str := R.prog.main.file
def codeAd (K : PySem.W.Frag) (f : Addr) : Addr := match K.lookup f with
  | some ⟨_, _, .func fd, _⟩ => (match fd.code with | .ref c => c | _ => 0)
  | _ => 0
def closAd (K : PySem.W.Frag) (f : Addr) : Addr := match K.lookup f with
  | some ⟨_, _, .func fd, _⟩ => (match fd.closure with | (_, c) :: _ => c | _ => 0)
  | _ => 0
def bF (K : PySem.W.Frag) (f : Addr) (q : Str) : Bool := match K.lookup f with
  | some ⟨_, _, .func fd, _⟩ => PySem.W.codeIn K fd.code q
  | _ => false
def cellB (K : PySem.W.Frag) (c D : Addr) : Bool := match K.lookup c with
  | some ⟨_, _, .cell (some (.ref x)), _⟩ => decide (x = D)
  | _ => false
def fileB (K : PySem.W.Frag) (c : Addr) (z : Str) : Bool := match K.lookup c with
  | some ⟨_, _, .fields vs, _⟩ => (match (vs[2]? : Option Value) with | some (Value.str y _) => z == y | _ => false)
  | _ => false
def largeB (K : PySem.W.Frag) (C : Addr) : Bool := match PySem.W.findCls K (.ref C) (.type "type") "LARGEST" with
  | some (.val (.int i _)) => decide (i = 40)
  | _ => false
abbrev FnX : Type := Option (Str × Str × Arguments × FuncBody × Scope × Addr × List Str × Value × Addr)
def fobs (K : PySem.W.Frag) (f : Addr) : FnX := match K.lookup f with
  | some ⟨_, _, .func fd, _⟩ => some (fd.name, fd.qualname, fd.params, fd.body, fd.scope, fd.globals, fd.closure.map Prod.fst, fd.defaults, fd.builtins)
  | _ => none
def fval (x q : Str) (st : Stmt) (cl : List Str) : FnX := some (x, q, defArgs st, .stmts (defBody st), defScope st, mainGlobals, cl, .none, builtinsNs)
theorem fun_of {K : PySem.W.Frag} {x q : Str} {st : Stmt} {f : Addr} (e : fobs K f = fval x q st []) (c : bF K f q = true) (kp : PySem.W.keepIn K (.ref f) = true) : ∃ fd, Fun K x q st f fd := by
  unfold bF at c
  unfold fobs at e
  cases z : K.lookup f with
  | none => rw [z] at c; cases c
  | some o =>
    obtain ⟨oc, od, dt, osl⟩ := o
    rw [z] at c e
    cases dt with
    | func fd =>
      obtain ⟨n1, n2, n3, n4, n5, n6, n7, n8, n9, n10, n11, n12, n13, n14, n15⟩ := fd
      have e2 : (some (n1, n2, n3, n4, n5, n6, n7.map Prod.fst, n8, n15) : FnX) = fval x q st [] := e
      simp only [fval, Option.some.injEq, Prod.mk.injEq] at e2
      obtain ⟨h1, h2, h3, h4, h5, h6, h7, h8, h9⟩ := e2
      have h7' : n7 = [] := List.map_eq_nil_iff.mp h7
      subst h1 h2 h3 h4 h5 h6 h7' h8 h9
      exact ⟨_, fun_mk z c kp⟩
    | _ => cases c
theorem funS_of {K : PySem.W.Frag} {x q : Str} {st : Stmt} {f D : Addr} (e : fobs K f = fval x q st ["__class__"]) (c : bF K f q = true) (cl : cellB K (closAd K f) D = true) : FunS K x q st f (codeAd K f) (closAd K f) D := by
  have cell : ∃ a b s, K.lookup (closAd K f) = some ⟨a, b, .cell (some (.ref D)), s⟩ := by
    unfold cellB at cl
    split at cl
    · rename_i a b y s h
      exact ⟨a, b, s, by rw [h, of_decide_eq_true cl]⟩
    · cases cl
  refine ⟨?_, cell⟩
  unfold codeAd closAd
  unfold bF at c
  unfold fobs at e
  cases z : K.lookup f with
  | none => rw [z] at c; cases c
  | some o =>
    obtain ⟨oc, od, dt, osl⟩ := o
    rw [z] at c e
    cases dt with
    | func fd =>
      obtain ⟨n1, n2, n3, n4, n5, n6, n7, n8, n9, n10, n11, n12, n13, n14, n15⟩ := fd
      have e2 : (some (n1, n2, n3, n4, n5, n6, n7.map Prod.fst, n8, n15) : FnX) = fval x q st ["__class__"] := e
      simp only [fval, Option.some.injEq, Prod.mk.injEq] at e2
      obtain ⟨h1, h2, h3, h4, h5, h6, h7, h8, h9⟩ := e2
      obtain ⟨⟨y, cc⟩, r, h71, h72, h73⟩ := List.map_eq_cons_iff.mp h7
      have hr := List.map_eq_nil_iff.mp h73
      have hy : y = "__class__" := h72
      subst hr hy h71
      subst h1 h2 h3 h4 h5 h6 h8 h9
      have c' : PySem.W.codeIn K n13 n2 = true := c
      cases n13 with
      | ref cda => exact ⟨oc, od, n9, n10, n11, n12, n14, osl, rfl, c'⟩
      | _ => cases c'
    | _ => cases c
theorem supF_of {K : PySem.W.Frag} {x q ps0 : Str} {st : Stmt} {f D : Addr} (e : fobs K f = fval x q st ["__class__"]) (hp : ((defArgs st).posonlyargs ++ (defArgs st).args).head?.map (·.arg) = some ps0) (fl : fileB K (codeAd K f) pFile = true) (cl : cellB K (closAd K f) D = true) (cs : (PySem.W.clsIn K D).isSome = true) (h1 : PySem.W.nsIn K mainGlobals "super" = some none) (h2 : PySem.W.nsIn K cStatics "thirdparty.any" = some none) :
    SupF R.prog K f (codeAd K f) (closAd K f) D ps0 := by
  refine ⟨?_, ?_, ?_, Option.isSome_iff_exists.mp cs, h1, h2⟩
  · obtain ⟨ar, ha, hb⟩ := Option.map_eq_some_iff.mp hp
    unfold fobs at e
    cases z : K.lookup f with
    | none => rw [z] at e; cases e
    | some o =>
      obtain ⟨oc, od, dt, osl⟩ := o
      rw [z] at e
      cases dt with
      | func fd =>
        have e2 : (some (fd.name, fd.qualname, fd.params, fd.body, fd.scope, fd.globals, fd.closure.map Prod.fst, fd.defaults, fd.builtins) : FnX) = fval x q st ["__class__"] := e
        simp only [fval, Option.some.injEq, Prod.mk.injEq] at e2
        exact ⟨oc, od, fd, osl, ar, rfl, by rw [e2.2.2.1]; exact ha, hb⟩
      | _ => cases e
  · unfold fileB at fl
    split at fl
    · rename_i a b vs s h
      split at fl
      · rename_i y t hy
        exact ⟨a, b, vs, s, y, t, h, hy, fl⟩
      · cases fl
    · cases fl
  · unfold cellB at cl
    split at cl
    · rename_i a b y s h
      exact ⟨a, b, s, by rw [h, of_decide_eq_true cl]⟩
    · cases cl
theorem na_of {K : PySem.W.Frag} {C : Addr} {f : Str} (h : decide (PySem.W.findIn K (.ref C) f = some none) = true) : NoAttr K C f := (of_decide_eq_true h : PySem.W.findIn K (.ref C) f = some none)
theorem largest_of {K : PySem.W.Frag} {C : Addr} (c : largeB K C = true) : ∃ t, ClX.CVal K C (.type "type") "LARGEST" (.int 40) (.int 40 t) := by
  unfold largeB at c
  split at c
  · rename_i i t h
    have e := of_decide_eq_true c
    subst e
    exact ⟨t, h, t, rfl⟩
  · cases c
def adr (K : PySem.W.Frag) : Ads where
  c_Grove := (He.ga K "Grove")
  c_Made := (He.ga K "Made")
  c_Ball := (He.ga K "Ball")
  c_Branch := (He.ga K "Branch")
  c_Way := (He.ga K "Way")
  c_Whole := (He.ga K "Whole")
  c_Tree := (He.ga K "Tree")
  c_Length := (He.ga K "Length")
  f_gate_of := (He.ga K "gate_of")
  f_common := (He.ga K "common")
  f_bridge_of := (He.ga K "bridge_of")
  f_after := (He.ga K "after")
  f_is_between := (He.ga K "is_between")
  f_need_tree := (He.ga K "need_tree")
  f_need_some := (He.ga K "need_some")
  f_made := (He.ga K "made")
  f_within := (He.ga K "within")
  f_need_places_shapes := (He.ga K "need_places_shapes")
  f_is_word := (He.ga K "is_word")
  f_is_strings := (He.ga K "is_strings")
  f_check_places := (He.ga K "check_places")
  f_check_edges := (He.ga K "check_edges")
  f_joined := (He.ga K "joined")
  f_check_tree := (He.ga K "check_tree")
  f_gaps_from := (He.ga K "gaps_from")
  f__law_box := (He.ga K "_law_box")
  f__law_take := (He.ga K "_law_take")
  f__law_mixed := (He.ga K "_law_mixed")
  f__law_names := (He.ga K "_law_names")
  f__law_tree := (He.ga K "_law_tree")
  f__law_near := (He.ga K "_law_near")
  f__law_gaps := (He.ga K "_law_gaps")
  f__law_grove := (He.ga K "_law_grove")
  f__law_size := (He.ga K "_law_size")
  f__law_ground := (He.ga K "_law_ground")
  f__law_shape := (He.ga K "_law_shape")
  f__law_composed := (He.ga K "_law_composed")
  f__law_bracketed := (He.ga K "_law_bracketed")
  f__law_row_right := (He.ga K "_law_row_right")
  f_law := (He.ga K "law")
  f_GroveX_initX := (He.ma K (He.ga K "Grove") "__init__")
  f_GroveX_lenX := (He.ma K (He.ga K "Grove") "__len__")
  f_GroveX_containsX := (He.ma K (He.ga K "Grove") "__contains__")
  f_GroveX_eqX := (He.ma K (He.ga K "Grove") "__eq__")
  f_GroveX_rshiftX := (He.ma K (He.ga K "Grove") "__rshift__")
  f_GroveX_callX := (He.ma K (He.ga K "Grove") "__call__")
  f_Grove_bridge := (He.ma K (He.ga K "Grove") "bridge")
  f_Grove_sources := (He.ma K (He.ga K "Grove") "sources")
  f_MadeX_initX := (He.ma K (He.ga K "Made") "__init__")
  f_LengthX_initX := (He.ma K (He.ga K "Length") "__init__")
  f_BallX_initX := (He.ma K (He.ga K "Ball") "__init__")
  f_BranchX_initX := (He.ma K (He.ga K "Branch") "__init__")
  f_WayX_initX := (He.ma K (He.ga K "Way") "__init__")
  f_WholeX_initX := (He.ma K (He.ga K "Whole") "__init__")
  f_TreeX_initX := (He.ma K (He.ga K "Tree") "__init__")
  f_TreeX_containsX := (He.ma K (He.ga K "Tree") "__contains__")
  f_TreeX_eqX := (He.ma K (He.ga K "Tree") "__eq__")
  k_BallX_initX := codeAd K (He.ma K (He.ga K "Ball") "__init__")
  d_BallX_initX := closAd K (He.ma K (He.ga K "Ball") "__init__")
  k_BranchX_initX := codeAd K (He.ma K (He.ga K "Branch") "__init__")
  d_BranchX_initX := closAd K (He.ma K (He.ga K "Branch") "__init__")
  k_WayX_initX := codeAd K (He.ma K (He.ga K "Way") "__init__")
  d_WayX_initX := closAd K (He.ma K (He.ga K "Way") "__init__")
  k_WholeX_initX := codeAd K (He.ma K (He.ga K "Whole") "__init__")
  d_WholeX_initX := closAd K (He.ma K (He.ga K "Whole") "__init__")
theorem gcs {K : PySem.W.Frag} {p : Addr → Prop} (h0 : p (He.ga K "Grove")) (h1 : p (He.ga K "Made")) (h2 : p (He.ga K "Ball")) (h3 : p (He.ga K "Branch")) (h4 : p (He.ga K "Way")) (h5 : p (He.ga K "Whole")) : ∀ C, GC (adr K) C → p C := by
  rintro C (rfl | rfl | rfl | rfl | rfl | rfl) <;> assumption
theorem gcs2 {K : PySem.W.Frag} {p : Addr → Addr → Prop} (h0 : ∀ D, GC (adr K) D → p (He.ga K "Grove") D) (h1 : ∀ D, GC (adr K) D → p (He.ga K "Made") D) (h2 : ∀ D, GC (adr K) D → p (He.ga K "Ball") D) (h3 : ∀ D, GC (adr K) D → p (He.ga K "Branch") D) (h4 : ∀ D, GC (adr K) D → p (He.ga K "Way") D) (h5 : ∀ D, GC (adr K) D → p (He.ga K "Whole") D) : ∀ C D, GC (adr K) C → GC (adr K) D → p C D := by
  rintro C D (rfl | rfl | rfl | rfl | rfl | rfl) hD
  · exact h0 D hD
  · exact h1 D hD
  · exact h2 D hD
  · exact h3 D hD
  · exact h4 D hD
  · exact h5 D hD
def checks (K : PySem.W.Frag) : List Bool := [
  bF K (He.ga K "gate_of") "gate_of",
  PySem.W.keepIn K (.ref (He.ga K "gate_of")),
  bF K (He.ga K "common") "common",
  PySem.W.keepIn K (.ref (He.ga K "common")),
  bF K (He.ga K "bridge_of") "bridge_of",
  PySem.W.keepIn K (.ref (He.ga K "bridge_of")),
  bF K (He.ga K "after") "after",
  PySem.W.keepIn K (.ref (He.ga K "after")),
  bF K (He.ga K "is_between") "is_between",
  PySem.W.keepIn K (.ref (He.ga K "is_between")),
  bF K (He.ga K "need_tree") "need_tree",
  PySem.W.keepIn K (.ref (He.ga K "need_tree")),
  bF K (He.ga K "need_some") "need_some",
  PySem.W.keepIn K (.ref (He.ga K "need_some")),
  bF K (He.ga K "made") "made",
  PySem.W.keepIn K (.ref (He.ga K "made")),
  bF K (He.ga K "within") "within",
  PySem.W.keepIn K (.ref (He.ga K "within")),
  bF K (He.ga K "need_places_shapes") "need_places",
  PySem.W.keepIn K (.ref (He.ga K "need_places_shapes")),
  bF K (He.ga K "is_word") "is_word",
  PySem.W.keepIn K (.ref (He.ga K "is_word")),
  bF K (He.ga K "is_strings") "is_strings",
  PySem.W.keepIn K (.ref (He.ga K "is_strings")),
  bF K (He.ga K "check_places") "check_places",
  PySem.W.keepIn K (.ref (He.ga K "check_places")),
  bF K (He.ga K "check_edges") "check_edges",
  PySem.W.keepIn K (.ref (He.ga K "check_edges")),
  bF K (He.ga K "joined") "joined",
  PySem.W.keepIn K (.ref (He.ga K "joined")),
  bF K (He.ga K "check_tree") "check_tree",
  PySem.W.keepIn K (.ref (He.ga K "check_tree")),
  bF K (He.ga K "gaps_from") "gaps_from",
  PySem.W.keepIn K (.ref (He.ga K "gaps_from")),
  bF K (He.ga K "_law_box") "_law_box",
  PySem.W.keepIn K (.ref (He.ga K "_law_box")),
  bF K (He.ga K "_law_take") "_law_take",
  PySem.W.keepIn K (.ref (He.ga K "_law_take")),
  bF K (He.ga K "_law_mixed") "_law_mixed",
  PySem.W.keepIn K (.ref (He.ga K "_law_mixed")),
  bF K (He.ga K "_law_names") "_law_names",
  PySem.W.keepIn K (.ref (He.ga K "_law_names")),
  bF K (He.ga K "_law_tree") "_law_tree",
  PySem.W.keepIn K (.ref (He.ga K "_law_tree")),
  bF K (He.ga K "_law_near") "_law_near",
  PySem.W.keepIn K (.ref (He.ga K "_law_near")),
  bF K (He.ga K "_law_gaps") "_law_gaps",
  PySem.W.keepIn K (.ref (He.ga K "_law_gaps")),
  bF K (He.ga K "_law_grove") "_law_grove",
  PySem.W.keepIn K (.ref (He.ga K "_law_grove")),
  bF K (He.ga K "_law_size") "_law_size",
  PySem.W.keepIn K (.ref (He.ga K "_law_size")),
  bF K (He.ga K "_law_ground") "_law_ground",
  PySem.W.keepIn K (.ref (He.ga K "_law_ground")),
  bF K (He.ga K "_law_shape") "_law_shape",
  PySem.W.keepIn K (.ref (He.ga K "_law_shape")),
  bF K (He.ga K "_law_composed") "_law_composed",
  PySem.W.keepIn K (.ref (He.ga K "_law_composed")),
  bF K (He.ga K "_law_bracketed") "_law_bracketed",
  PySem.W.keepIn K (.ref (He.ga K "_law_bracketed")),
  bF K (He.ga K "_law_row_right") "_law_row_right",
  PySem.W.keepIn K (.ref (He.ga K "_law_row_right")),
  bF K (He.ga K "law") "law",
  PySem.W.keepIn K (.ref (He.ga K "law")),
  bF K (He.ma K (He.ga K "Grove") "__init__") "Grove.__init__",
  PySem.W.keepIn K (.ref (He.ma K (He.ga K "Grove") "__init__")),
  bF K (He.ma K (He.ga K "Grove") "__len__") "Grove.__len__",
  PySem.W.keepIn K (.ref (He.ma K (He.ga K "Grove") "__len__")),
  bF K (He.ma K (He.ga K "Grove") "__contains__") "Grove.__contains__",
  PySem.W.keepIn K (.ref (He.ma K (He.ga K "Grove") "__contains__")),
  bF K (He.ma K (He.ga K "Grove") "__eq__") "Grove.__eq__",
  PySem.W.keepIn K (.ref (He.ma K (He.ga K "Grove") "__eq__")),
  bF K (He.ma K (He.ga K "Grove") "__rshift__") "Grove.__rshift__",
  PySem.W.keepIn K (.ref (He.ma K (He.ga K "Grove") "__rshift__")),
  bF K (He.ma K (He.ga K "Grove") "__call__") "Grove.__call__",
  PySem.W.keepIn K (.ref (He.ma K (He.ga K "Grove") "__call__")),
  bF K (He.ma K (He.ga K "Grove") "bridge") "Grove.bridge",
  PySem.W.keepIn K (.ref (He.ma K (He.ga K "Grove") "bridge")),
  bF K (He.ma K (He.ga K "Grove") "sources") "Grove.sources",
  PySem.W.keepIn K (.ref (He.ma K (He.ga K "Grove") "sources")),
  bF K (He.ma K (He.ga K "Made") "__init__") "Made.__init__",
  PySem.W.keepIn K (.ref (He.ma K (He.ga K "Made") "__init__")),
  bF K (He.ma K (He.ga K "Length") "__init__") "Length.__init__",
  PySem.W.keepIn K (.ref (He.ma K (He.ga K "Length") "__init__")),
  bF K (He.ma K (He.ga K "Ball") "__init__") "Ball.__init__",
  cellB K (closAd K (He.ma K (He.ga K "Ball") "__init__")) (He.ga K "Ball"),
  fileB K (codeAd K (He.ma K (He.ga K "Ball") "__init__")) pFile,
  (PySem.W.clsIn K (He.ga K "Ball")).isSome,
  decide (PySem.W.nsIn K mainGlobals "super" = some none),
  decide (PySem.W.nsIn K cStatics "thirdparty.any" = some none),
  decide (PySem.W.mroIn K (He.ga K "Ball") (.ref (He.ga K "Ball")) = some true),
  decide (PySem.W.ks_superIn K (He.ga K "Ball") (He.ga K "Ball") "__init__" = some (some (.ref (He.ma K (He.ga K "Grove") "__init__")))),
  bF K (He.ma K (He.ga K "Branch") "__init__") "Branch.__init__",
  cellB K (closAd K (He.ma K (He.ga K "Branch") "__init__")) (He.ga K "Branch"),
  fileB K (codeAd K (He.ma K (He.ga K "Branch") "__init__")) pFile,
  (PySem.W.clsIn K (He.ga K "Branch")).isSome,
  decide (PySem.W.mroIn K (He.ga K "Branch") (.ref (He.ga K "Branch")) = some true),
  decide (PySem.W.ks_superIn K (He.ga K "Branch") (He.ga K "Branch") "__init__" = some (some (.ref (He.ma K (He.ga K "Grove") "__init__")))),
  bF K (He.ma K (He.ga K "Way") "__init__") "Way.__init__",
  cellB K (closAd K (He.ma K (He.ga K "Way") "__init__")) (He.ga K "Way"),
  fileB K (codeAd K (He.ma K (He.ga K "Way") "__init__")) pFile,
  (PySem.W.clsIn K (He.ga K "Way")).isSome,
  decide (PySem.W.mroIn K (He.ga K "Way") (.ref (He.ga K "Way")) = some true),
  decide (PySem.W.ks_superIn K (He.ga K "Way") (He.ga K "Way") "__init__" = some (some (.ref (He.ma K (He.ga K "Grove") "__init__")))),
  bF K (He.ma K (He.ga K "Whole") "__init__") "Whole.__init__",
  cellB K (closAd K (He.ma K (He.ga K "Whole") "__init__")) (He.ga K "Whole"),
  fileB K (codeAd K (He.ma K (He.ga K "Whole") "__init__")) pFile,
  (PySem.W.clsIn K (He.ga K "Whole")).isSome,
  decide (PySem.W.mroIn K (He.ga K "Whole") (.ref (He.ga K "Whole")) = some true),
  decide (PySem.W.ks_superIn K (He.ga K "Whole") (He.ga K "Whole") "__init__" = some (some (.ref (He.ma K (He.ga K "Grove") "__init__")))),
  bF K (He.ma K (He.ga K "Tree") "__init__") "Tree.__init__",
  PySem.W.keepIn K (.ref (He.ma K (He.ga K "Tree") "__init__")),
  bF K (He.ma K (He.ga K "Tree") "__contains__") "Tree.__contains__",
  PySem.W.keepIn K (.ref (He.ma K (He.ga K "Tree") "__contains__")),
  bF K (He.ma K (He.ga K "Tree") "__eq__") "Tree.__eq__",
  PySem.W.keepIn K (.ref (He.ma K (He.ga K "Tree") "__eq__")),
  decide (PySem.W.nsIn K mainGlobals "gate_of" = some (some (.ref (He.ga K "gate_of")))),
  decide (PySem.W.nsIn K mainGlobals "common" = some (some (.ref (He.ga K "common")))),
  decide (PySem.W.nsIn K mainGlobals "bridge_of" = some (some (.ref (He.ga K "bridge_of")))),
  decide (PySem.W.nsIn K mainGlobals "after" = some (some (.ref (He.ga K "after")))),
  decide (PySem.W.nsIn K mainGlobals "is_between" = some (some (.ref (He.ga K "is_between")))),
  decide (PySem.W.nsIn K mainGlobals "need_tree" = some (some (.ref (He.ga K "need_tree")))),
  decide (PySem.W.nsIn K mainGlobals "need_some" = some (some (.ref (He.ga K "need_some")))),
  decide (PySem.W.nsIn K mainGlobals "made" = some (some (.ref (He.ga K "made")))),
  decide (PySem.W.nsIn K mainGlobals "within" = some (some (.ref (He.ga K "within")))),
  decide (PySem.W.nsIn K mainGlobals "need_places_shapes" = some (some (.ref (He.ga K "need_places_shapes")))),
  decide (PySem.W.nsIn K mainGlobals "is_word" = some (some (.ref (He.ga K "is_word")))),
  decide (PySem.W.nsIn K mainGlobals "is_strings" = some (some (.ref (He.ga K "is_strings")))),
  decide (PySem.W.nsIn K mainGlobals "check_places" = some (some (.ref (He.ga K "check_places")))),
  decide (PySem.W.nsIn K mainGlobals "check_edges" = some (some (.ref (He.ga K "check_edges")))),
  decide (PySem.W.nsIn K mainGlobals "joined" = some (some (.ref (He.ga K "joined")))),
  decide (PySem.W.nsIn K mainGlobals "check_tree" = some (some (.ref (He.ga K "check_tree")))),
  decide (PySem.W.nsIn K mainGlobals "gaps_from" = some (some (.ref (He.ga K "gaps_from")))),
  decide (PySem.W.nsIn K mainGlobals "_law_box" = some (some (.ref (He.ga K "_law_box")))),
  decide (PySem.W.nsIn K mainGlobals "_law_take" = some (some (.ref (He.ga K "_law_take")))),
  decide (PySem.W.nsIn K mainGlobals "_law_mixed" = some (some (.ref (He.ga K "_law_mixed")))),
  decide (PySem.W.nsIn K mainGlobals "_law_names" = some (some (.ref (He.ga K "_law_names")))),
  decide (PySem.W.nsIn K mainGlobals "_law_tree" = some (some (.ref (He.ga K "_law_tree")))),
  decide (PySem.W.nsIn K mainGlobals "_law_near" = some (some (.ref (He.ga K "_law_near")))),
  decide (PySem.W.nsIn K mainGlobals "_law_gaps" = some (some (.ref (He.ga K "_law_gaps")))),
  decide (PySem.W.nsIn K mainGlobals "_law_grove" = some (some (.ref (He.ga K "_law_grove")))),
  decide (PySem.W.nsIn K mainGlobals "_law_size" = some (some (.ref (He.ga K "_law_size")))),
  decide (PySem.W.nsIn K mainGlobals "_law_ground" = some (some (.ref (He.ga K "_law_ground")))),
  decide (PySem.W.nsIn K mainGlobals "_law_shape" = some (some (.ref (He.ga K "_law_shape")))),
  decide (PySem.W.nsIn K mainGlobals "_law_composed" = some (some (.ref (He.ga K "_law_composed")))),
  decide (PySem.W.nsIn K mainGlobals "_law_bracketed" = some (some (.ref (He.ga K "_law_bracketed")))),
  decide (PySem.W.nsIn K mainGlobals "_law_row_right" = some (some (.ref (He.ga K "_law_row_right")))),
  decide (PySem.W.nsIn K mainGlobals "law" = some (some (.ref (He.ga K "law")))),
  decide (PySem.W.nsIn K mainGlobals "Grove" = some (some (.ref (He.ga K "Grove")))),
  PySem.W.plainGet K (He.ga K "Grove") Str.empty,
  PySem.W.hasDictIn K (He.ga K "Grove"),
  PySem.W.plainOver K (He.ga K "Grove"),
  decide (PySem.W.findIn K (.ref (He.ga K "Grove")) "__setattr__" = some (some (.builtin "object.__setattr__"))),
  PySem.W.makesIn K (He.ga K "Grove"),
  decide (PySem.W.findIn K (.ref (He.ga K "Grove")) "__init__" = some (some (.ref (He.ma K (He.ga K "Grove") "__init__")))),
  PySem.W.isFn K (.ref (He.ma K (He.ga K "Grove") "__init__")),
  PySem.W.keepIn K (.ref (He.ga K "Grove")),
  decide (PySem.W.nsIn K mainGlobals "Made" = some (some (.ref (He.ga K "Made")))),
  PySem.W.plainGet K (He.ga K "Made") Str.empty,
  PySem.W.hasDictIn K (He.ga K "Made"),
  PySem.W.plainOver K (He.ga K "Made"),
  decide (PySem.W.findIn K (.ref (He.ga K "Made")) "__setattr__" = some (some (.builtin "object.__setattr__"))),
  PySem.W.makesIn K (He.ga K "Made"),
  decide (PySem.W.findIn K (.ref (He.ga K "Made")) "__init__" = some (some (.ref (He.ma K (He.ga K "Made") "__init__")))),
  PySem.W.isFn K (.ref (He.ma K (He.ga K "Made") "__init__")),
  PySem.W.keepIn K (.ref (He.ga K "Made")),
  decide (PySem.W.nsIn K mainGlobals "Ball" = some (some (.ref (He.ga K "Ball")))),
  PySem.W.plainGet K (He.ga K "Ball") Str.empty,
  PySem.W.hasDictIn K (He.ga K "Ball"),
  PySem.W.plainOver K (He.ga K "Ball"),
  decide (PySem.W.findIn K (.ref (He.ga K "Ball")) "__setattr__" = some (some (.builtin "object.__setattr__"))),
  PySem.W.makesIn K (He.ga K "Ball"),
  decide (PySem.W.findIn K (.ref (He.ga K "Ball")) "__init__" = some (some (.ref (He.ma K (He.ga K "Ball") "__init__")))),
  PySem.W.isFn K (.ref (He.ma K (He.ga K "Ball") "__init__")),
  PySem.W.keepIn K (.ref (He.ga K "Ball")),
  decide (PySem.W.nsIn K mainGlobals "Branch" = some (some (.ref (He.ga K "Branch")))),
  PySem.W.plainGet K (He.ga K "Branch") Str.empty,
  PySem.W.hasDictIn K (He.ga K "Branch"),
  PySem.W.plainOver K (He.ga K "Branch"),
  decide (PySem.W.findIn K (.ref (He.ga K "Branch")) "__setattr__" = some (some (.builtin "object.__setattr__"))),
  PySem.W.makesIn K (He.ga K "Branch"),
  decide (PySem.W.findIn K (.ref (He.ga K "Branch")) "__init__" = some (some (.ref (He.ma K (He.ga K "Branch") "__init__")))),
  PySem.W.isFn K (.ref (He.ma K (He.ga K "Branch") "__init__")),
  PySem.W.keepIn K (.ref (He.ga K "Branch")),
  decide (PySem.W.nsIn K mainGlobals "Way" = some (some (.ref (He.ga K "Way")))),
  PySem.W.plainGet K (He.ga K "Way") Str.empty,
  PySem.W.hasDictIn K (He.ga K "Way"),
  PySem.W.plainOver K (He.ga K "Way"),
  decide (PySem.W.findIn K (.ref (He.ga K "Way")) "__setattr__" = some (some (.builtin "object.__setattr__"))),
  PySem.W.makesIn K (He.ga K "Way"),
  decide (PySem.W.findIn K (.ref (He.ga K "Way")) "__init__" = some (some (.ref (He.ma K (He.ga K "Way") "__init__")))),
  PySem.W.isFn K (.ref (He.ma K (He.ga K "Way") "__init__")),
  PySem.W.keepIn K (.ref (He.ga K "Way")),
  decide (PySem.W.nsIn K mainGlobals "Whole" = some (some (.ref (He.ga K "Whole")))),
  PySem.W.plainGet K (He.ga K "Whole") Str.empty,
  PySem.W.hasDictIn K (He.ga K "Whole"),
  PySem.W.plainOver K (He.ga K "Whole"),
  decide (PySem.W.findIn K (.ref (He.ga K "Whole")) "__setattr__" = some (some (.builtin "object.__setattr__"))),
  PySem.W.makesIn K (He.ga K "Whole"),
  decide (PySem.W.findIn K (.ref (He.ga K "Whole")) "__init__" = some (some (.ref (He.ma K (He.ga K "Whole") "__init__")))),
  PySem.W.isFn K (.ref (He.ma K (He.ga K "Whole") "__init__")),
  PySem.W.keepIn K (.ref (He.ga K "Whole")),
  decide (PySem.W.nsIn K mainGlobals "Tree" = some (some (.ref (He.ga K "Tree")))),
  PySem.W.plainGet K (He.ga K "Tree") Str.empty,
  PySem.W.hasDictIn K (He.ga K "Tree"),
  PySem.W.plainOver K (He.ga K "Tree"),
  decide (PySem.W.findIn K (.ref (He.ga K "Tree")) "__setattr__" = some (some (.builtin "object.__setattr__"))),
  PySem.W.makesIn K (He.ga K "Tree"),
  decide (PySem.W.findIn K (.ref (He.ga K "Tree")) "__init__" = some (some (.ref (He.ma K (He.ga K "Tree") "__init__")))),
  PySem.W.isFn K (.ref (He.ma K (He.ga K "Tree") "__init__")),
  PySem.W.keepIn K (.ref (He.ga K "Tree")),
  decide (PySem.W.nsIn K mainGlobals "Length" = some (some (.ref (He.ga K "Length")))),
  PySem.W.plainGet K (He.ga K "Length") Str.empty,
  PySem.W.hasDictIn K (He.ga K "Length"),
  PySem.W.plainOver K (He.ga K "Length"),
  decide (PySem.W.findIn K (.ref (He.ga K "Length")) "__setattr__" = some (some (.builtin "object.__setattr__"))),
  PySem.W.makesIn K (He.ga K "Length"),
  decide (PySem.W.findIn K (.ref (He.ga K "Length")) "__init__" = some (some (.ref (He.ma K (He.ga K "Length") "__init__")))),
  PySem.W.isFn K (.ref (He.ma K (He.ga K "Length") "__init__")),
  PySem.W.keepIn K (.ref (He.ga K "Length")),
  decide (PySem.W.findIn K (.ref (He.ga K "Tree")) "own_places" = some none),
  decide (PySem.W.findIn K (.ref (He.ga K "Tree")) "own_edges" = some none),
  decide (PySem.W.findIn K (.ref (He.ga K "Tree")) "near" = some none),
  decide (PySem.W.findIn K (.ref (He.ga K "Tree")) "gaps" = some none),
  decide (PySem.W.findIn K (.ref (He.ga K "Length")) "rank" = some none),
  decide (PySem.W.findIn K (.ref (He.ga K "Length")) "size" = some none),
  decide (PySem.W.findIn K (.ref (He.ga K "Ball")) "own_centre" = some none),
  decide (PySem.W.findIn K (.ref (He.ga K "Ball")) "own_radius" = some none),
  decide (PySem.W.findIn K (.ref (He.ga K "Branch")) "own_root" = some none),
  decide (PySem.W.findIn K (.ref (He.ga K "Way")) "own_ends" = some none),
  decide (PySem.W.nsIn K mainGlobals "len" = some none),
  decide (PySem.W.nsIn K mainGlobals "tuple" = some none),
  decide (PySem.W.nsIn K mainGlobals "isinstance" = some none),
  decide (PySem.W.nsIn K mainGlobals "all" = some none),
  decide (PySem.W.nsIn K mainGlobals "enumerate" = some none),
  decide (PySem.W.nsIn K mainGlobals "list" = some none),
  decide (PySem.W.nsIn K mainGlobals "range" = some none),
  decide (PySem.W.nsIn K mainGlobals "abs" = some none),
  decide (PySem.W.nsIn K mainGlobals "int" = some none),
  decide (PySem.W.nsIn K mainGlobals "max" = some none),
  decide (PySem.W.nsIn K mainGlobals "min" = some none),
  decide (PySem.W.nsIn K mainGlobals "str" = some none),
  (He.Fa.str "LETTERS" "abcdefghijklmnopqrstuvwxyz").ok K,
  decide (PySem.W.findIn K (.ref (He.ga K "Grove")) "own" = some none),
  decide (PySem.W.findIn K (.ref (He.ga K "Made")) "own" = some none),
  decide (PySem.W.findIn K (.ref (He.ga K "Ball")) "own" = some none),
  decide (PySem.W.findIn K (.ref (He.ga K "Branch")) "own" = some none),
  decide (PySem.W.findIn K (.ref (He.ga K "Way")) "own" = some none),
  decide (PySem.W.findIn K (.ref (He.ga K "Whole")) "own" = some none),
  decide (PySem.W.findIn K (.ref (He.ga K "Grove")) "own_tree" = some none),
  decide (PySem.W.findIn K (.ref (He.ga K "Made")) "own_tree" = some none),
  decide (PySem.W.findIn K (.ref (He.ga K "Ball")) "own_tree" = some none),
  decide (PySem.W.findIn K (.ref (He.ga K "Branch")) "own_tree" = some none),
  decide (PySem.W.findIn K (.ref (He.ga K "Way")) "own_tree" = some none),
  decide (PySem.W.findIn K (.ref (He.ga K "Whole")) "own_tree" = some none),
  decide (PySem.W.findIn K (.ref (He.ga K "Grove")) "bridge" = some (some (.ref (He.ma K (He.ga K "Grove") "bridge")))),
  PySem.W.isFn K (.ref (He.ma K (He.ga K "Grove") "bridge")),
  decide (PySem.W.findIn K (.ref (He.ga K "Made")) "bridge" = some (some (.ref (He.ma K (He.ga K "Grove") "bridge")))),
  decide (PySem.W.findIn K (.ref (He.ga K "Ball")) "bridge" = some (some (.ref (He.ma K (He.ga K "Grove") "bridge")))),
  decide (PySem.W.findIn K (.ref (He.ga K "Branch")) "bridge" = some (some (.ref (He.ma K (He.ga K "Grove") "bridge")))),
  decide (PySem.W.findIn K (.ref (He.ga K "Way")) "bridge" = some (some (.ref (He.ma K (He.ga K "Grove") "bridge")))),
  decide (PySem.W.findIn K (.ref (He.ga K "Whole")) "bridge" = some (some (.ref (He.ma K (He.ga K "Grove") "bridge")))),
  decide (PySem.W.findIn K (.ref (He.ga K "Grove")) "sources" = some (some (.ref (He.ma K (He.ga K "Grove") "sources")))),
  PySem.W.isFn K (.ref (He.ma K (He.ga K "Grove") "sources")),
  decide (PySem.W.findIn K (.ref (He.ga K "Made")) "sources" = some (some (.ref (He.ma K (He.ga K "Grove") "sources")))),
  decide (PySem.W.findIn K (.ref (He.ga K "Ball")) "sources" = some (some (.ref (He.ma K (He.ga K "Grove") "sources")))),
  decide (PySem.W.findIn K (.ref (He.ga K "Branch")) "sources" = some (some (.ref (He.ma K (He.ga K "Grove") "sources")))),
  decide (PySem.W.findIn K (.ref (He.ga K "Way")) "sources" = some (some (.ref (He.ma K (He.ga K "Grove") "sources")))),
  decide (PySem.W.findIn K (.ref (He.ga K "Whole")) "sources" = some (some (.ref (He.ma K (He.ga K "Grove") "sources")))),
  decide (PySem.W.findIn K (.ref (He.ga K "Grove")) "__contains__" = some (some (.ref (He.ma K (He.ga K "Grove") "__contains__")))),
  decide (PySem.W.findIn K (.ref (He.ga K "Made")) "__contains__" = some (some (.ref (He.ma K (He.ga K "Grove") "__contains__")))),
  decide (PySem.W.findIn K (.ref (He.ga K "Ball")) "__contains__" = some (some (.ref (He.ma K (He.ga K "Grove") "__contains__")))),
  decide (PySem.W.findIn K (.ref (He.ga K "Branch")) "__contains__" = some (some (.ref (He.ma K (He.ga K "Grove") "__contains__")))),
  decide (PySem.W.findIn K (.ref (He.ga K "Way")) "__contains__" = some (some (.ref (He.ma K (He.ga K "Grove") "__contains__")))),
  decide (PySem.W.findIn K (.ref (He.ga K "Whole")) "__contains__" = some (some (.ref (He.ma K (He.ga K "Grove") "__contains__")))),
  decide (PySem.W.findIn K (.ref (He.ga K "Grove")) "__len__" = some (some (.ref (He.ma K (He.ga K "Grove") "__len__")))),
  decide (PySem.W.findIn K (.ref (He.ga K "Made")) "__len__" = some (some (.ref (He.ma K (He.ga K "Grove") "__len__")))),
  decide (PySem.W.findIn K (.ref (He.ga K "Ball")) "__len__" = some (some (.ref (He.ma K (He.ga K "Grove") "__len__")))),
  decide (PySem.W.findIn K (.ref (He.ga K "Branch")) "__len__" = some (some (.ref (He.ma K (He.ga K "Grove") "__len__")))),
  decide (PySem.W.findIn K (.ref (He.ga K "Way")) "__len__" = some (some (.ref (He.ma K (He.ga K "Grove") "__len__")))),
  decide (PySem.W.findIn K (.ref (He.ga K "Whole")) "__len__" = some (some (.ref (He.ma K (He.ga K "Grove") "__len__")))),
  decide (PySem.W.findIn K (.ref (He.ga K "Grove")) "__call__" = some (some (.ref (He.ma K (He.ga K "Grove") "__call__")))),
  PySem.W.isFn K (.ref (He.ma K (He.ga K "Grove") "__call__")),
  PySem.W.fnIn K (He.ma K (He.ga K "Grove") "__call__"),
  decide (PySem.W.findIn K (.ref (He.ga K "Made")) "__call__" = some (some (.ref (He.ma K (He.ga K "Grove") "__call__")))),
  decide (PySem.W.findIn K (.ref (He.ga K "Ball")) "__call__" = some (some (.ref (He.ma K (He.ga K "Grove") "__call__")))),
  decide (PySem.W.findIn K (.ref (He.ga K "Branch")) "__call__" = some (some (.ref (He.ma K (He.ga K "Grove") "__call__")))),
  decide (PySem.W.findIn K (.ref (He.ga K "Way")) "__call__" = some (some (.ref (He.ma K (He.ga K "Grove") "__call__")))),
  decide (PySem.W.findIn K (.ref (He.ga K "Whole")) "__call__" = some (some (.ref (He.ma K (He.ga K "Grove") "__call__")))),
  decide (PySem.W.findIn K (.ref (He.ga K "Grove")) "__eq__" = some (some (.ref (He.ma K (He.ga K "Grove") "__eq__")))),
  decide (PySem.W.findIn K (.ref (He.ga K "Grove")) "__ne__" = some (some (.builtin "object.__ne__"))),
  decide (PySem.W.mroIn K (He.ga K "Grove") (.type "object") = some true),
  decide (PySem.W.findIn K (.ref (He.ga K "Made")) "__eq__" = some (some (.ref (He.ma K (He.ga K "Grove") "__eq__")))),
  decide (PySem.W.findIn K (.ref (He.ga K "Made")) "__ne__" = some (some (.builtin "object.__ne__"))),
  decide (PySem.W.mroIn K (He.ga K "Made") (.type "object") = some true),
  decide (PySem.W.findIn K (.ref (He.ga K "Ball")) "__eq__" = some (some (.ref (He.ma K (He.ga K "Grove") "__eq__")))),
  decide (PySem.W.findIn K (.ref (He.ga K "Ball")) "__ne__" = some (some (.builtin "object.__ne__"))),
  decide (PySem.W.mroIn K (He.ga K "Ball") (.type "object") = some true),
  decide (PySem.W.findIn K (.ref (He.ga K "Branch")) "__eq__" = some (some (.ref (He.ma K (He.ga K "Grove") "__eq__")))),
  decide (PySem.W.findIn K (.ref (He.ga K "Branch")) "__ne__" = some (some (.builtin "object.__ne__"))),
  decide (PySem.W.mroIn K (He.ga K "Branch") (.type "object") = some true),
  decide (PySem.W.findIn K (.ref (He.ga K "Way")) "__eq__" = some (some (.ref (He.ma K (He.ga K "Grove") "__eq__")))),
  decide (PySem.W.findIn K (.ref (He.ga K "Way")) "__ne__" = some (some (.builtin "object.__ne__"))),
  decide (PySem.W.mroIn K (He.ga K "Way") (.type "object") = some true),
  decide (PySem.W.findIn K (.ref (He.ga K "Whole")) "__eq__" = some (some (.ref (He.ma K (He.ga K "Grove") "__eq__")))),
  decide (PySem.W.findIn K (.ref (He.ga K "Whole")) "__ne__" = some (some (.builtin "object.__ne__"))),
  decide (PySem.W.mroIn K (He.ga K "Whole") (.type "object") = some true),
  PySem.W.selfFirst K (He.ga K "Grove"),
  decide (PySem.W.findIn K (.ref (He.ga K "Grove")) (PySem.dunder "rshift") = some (some (.ref (He.ma K (He.ga K "Grove") "__rshift__")))),
  decide (PySem.W.findIn K (.ref (He.ga K "Grove")) (dunderR "rshift") = some none),
  missB K (He.ga K "Grove") (dunderR "rshift"),
  PySem.W.selfFirst K (He.ga K "Made"),
  decide (PySem.W.findIn K (.ref (He.ga K "Made")) (PySem.dunder "rshift") = some (some (.ref (He.ma K (He.ga K "Grove") "__rshift__")))),
  decide (PySem.W.findIn K (.ref (He.ga K "Made")) (dunderR "rshift") = some none),
  missB K (He.ga K "Made") (dunderR "rshift"),
  PySem.W.selfFirst K (He.ga K "Ball"),
  decide (PySem.W.findIn K (.ref (He.ga K "Ball")) (PySem.dunder "rshift") = some (some (.ref (He.ma K (He.ga K "Grove") "__rshift__")))),
  decide (PySem.W.findIn K (.ref (He.ga K "Ball")) (dunderR "rshift") = some none),
  missB K (He.ga K "Ball") (dunderR "rshift"),
  PySem.W.selfFirst K (He.ga K "Branch"),
  decide (PySem.W.findIn K (.ref (He.ga K "Branch")) (PySem.dunder "rshift") = some (some (.ref (He.ma K (He.ga K "Grove") "__rshift__")))),
  decide (PySem.W.findIn K (.ref (He.ga K "Branch")) (dunderR "rshift") = some none),
  missB K (He.ga K "Branch") (dunderR "rshift"),
  PySem.W.selfFirst K (He.ga K "Way"),
  decide (PySem.W.findIn K (.ref (He.ga K "Way")) (PySem.dunder "rshift") = some (some (.ref (He.ma K (He.ga K "Grove") "__rshift__")))),
  decide (PySem.W.findIn K (.ref (He.ga K "Way")) (dunderR "rshift") = some none),
  missB K (He.ga K "Way") (dunderR "rshift"),
  PySem.W.selfFirst K (He.ga K "Whole"),
  decide (PySem.W.findIn K (.ref (He.ga K "Whole")) (PySem.dunder "rshift") = some (some (.ref (He.ma K (He.ga K "Grove") "__rshift__")))),
  decide (PySem.W.findIn K (.ref (He.ga K "Whole")) (dunderR "rshift") = some none),
  missB K (He.ga K "Whole") (dunderR "rshift"),
  (PySem.W.subIn K (.ref (He.ga K "Made")) (.ref (He.ga K "Grove"))).isSome,
  (PySem.W.subIn K (.ref (He.ga K "Ball")) (.ref (He.ga K "Grove"))).isSome,
  (PySem.W.subIn K (.ref (He.ga K "Branch")) (.ref (He.ga K "Grove"))).isSome,
  (PySem.W.subIn K (.ref (He.ga K "Way")) (.ref (He.ga K "Grove"))).isSome,
  (PySem.W.subIn K (.ref (He.ga K "Whole")) (.ref (He.ga K "Grove"))).isSome,
  (PySem.W.subIn K (.ref (He.ga K "Grove")) (.ref (He.ga K "Made"))).isSome,
  (PySem.W.subIn K (.ref (He.ga K "Ball")) (.ref (He.ga K "Made"))).isSome,
  (PySem.W.subIn K (.ref (He.ga K "Branch")) (.ref (He.ga K "Made"))).isSome,
  (PySem.W.subIn K (.ref (He.ga K "Way")) (.ref (He.ga K "Made"))).isSome,
  (PySem.W.subIn K (.ref (He.ga K "Whole")) (.ref (He.ga K "Made"))).isSome,
  (PySem.W.subIn K (.ref (He.ga K "Grove")) (.ref (He.ga K "Ball"))).isSome,
  (PySem.W.subIn K (.ref (He.ga K "Made")) (.ref (He.ga K "Ball"))).isSome,
  (PySem.W.subIn K (.ref (He.ga K "Branch")) (.ref (He.ga K "Ball"))).isSome,
  (PySem.W.subIn K (.ref (He.ga K "Way")) (.ref (He.ga K "Ball"))).isSome,
  (PySem.W.subIn K (.ref (He.ga K "Whole")) (.ref (He.ga K "Ball"))).isSome,
  (PySem.W.subIn K (.ref (He.ga K "Grove")) (.ref (He.ga K "Branch"))).isSome,
  (PySem.W.subIn K (.ref (He.ga K "Made")) (.ref (He.ga K "Branch"))).isSome,
  (PySem.W.subIn K (.ref (He.ga K "Ball")) (.ref (He.ga K "Branch"))).isSome,
  (PySem.W.subIn K (.ref (He.ga K "Way")) (.ref (He.ga K "Branch"))).isSome,
  (PySem.W.subIn K (.ref (He.ga K "Whole")) (.ref (He.ga K "Branch"))).isSome,
  (PySem.W.subIn K (.ref (He.ga K "Grove")) (.ref (He.ga K "Way"))).isSome,
  (PySem.W.subIn K (.ref (He.ga K "Made")) (.ref (He.ga K "Way"))).isSome,
  (PySem.W.subIn K (.ref (He.ga K "Ball")) (.ref (He.ga K "Way"))).isSome,
  (PySem.W.subIn K (.ref (He.ga K "Branch")) (.ref (He.ga K "Way"))).isSome,
  (PySem.W.subIn K (.ref (He.ga K "Whole")) (.ref (He.ga K "Way"))).isSome,
  (PySem.W.subIn K (.ref (He.ga K "Grove")) (.ref (He.ga K "Whole"))).isSome,
  (PySem.W.subIn K (.ref (He.ga K "Made")) (.ref (He.ga K "Whole"))).isSome,
  (PySem.W.subIn K (.ref (He.ga K "Ball")) (.ref (He.ga K "Whole"))).isSome,
  (PySem.W.subIn K (.ref (He.ga K "Branch")) (.ref (He.ga K "Whole"))).isSome,
  (PySem.W.subIn K (.ref (He.ga K "Way")) (.ref (He.ga K "Whole"))).isSome,
  decide (PySem.W.kitOne K (.ref (He.ga K "Grove")) (.ref (He.ga K "Grove")) = some true),
  decide (PySem.W.kitOne K (.ref (He.ga K "Made")) (.ref (He.ga K "Grove")) = some true),
  decide (PySem.W.kitOne K (.ref (He.ga K "Ball")) (.ref (He.ga K "Grove")) = some true),
  decide (PySem.W.kitOne K (.ref (He.ga K "Branch")) (.ref (He.ga K "Grove")) = some true),
  decide (PySem.W.kitOne K (.ref (He.ga K "Way")) (.ref (He.ga K "Grove")) = some true),
  decide (PySem.W.kitOne K (.ref (He.ga K "Whole")) (.ref (He.ga K "Grove")) = some true),
  decide (PySem.W.findIn K (.ref (He.ga K "Grove")) "__class__" = some (some (.builtin "object.__class__"))),
  decide (PySem.W.specialIn K (.builtin "object.__class__") "__get__" = some (some (.builtin "getset_descriptor.__get__"))),
  decide (PySem.W.takesIn K (.builtin "object.__class__") = some true),
  decide (PySem.W.findIn K (.ref (He.ga K "Made")) "__class__" = some (some (.builtin "object.__class__"))),
  decide (PySem.W.findIn K (.ref (He.ga K "Ball")) "__class__" = some (some (.builtin "object.__class__"))),
  decide (PySem.W.findIn K (.ref (He.ga K "Branch")) "__class__" = some (some (.builtin "object.__class__"))),
  decide (PySem.W.findIn K (.ref (He.ga K "Way")) "__class__" = some (some (.builtin "object.__class__"))),
  decide (PySem.W.findIn K (.ref (He.ga K "Whole")) "__class__" = some (some (.builtin "object.__class__"))),
  decide (PySem.W.findIn K (.ref (He.ga K "Tree")) "__contains__" = some (some (.ref (He.ma K (He.ga K "Tree") "__contains__")))),
  decide (PySem.W.findIn K (.ref (He.ga K "Tree")) "__eq__" = some (some (.ref (He.ma K (He.ga K "Tree") "__eq__")))),
  decide (PySem.W.findIn K (.ref (He.ga K "Tree")) "__ne__" = some (some (.builtin "object.__ne__"))),
  decide (PySem.W.mroIn K (He.ga K "Tree") (.type "object") = some true),
  decide (PySem.W.kitOne K (.ref (He.ga K "Tree")) (.ref (He.ga K "Tree")) = some true),
  decide (PySem.W.findIn K (.ref (He.ga K "Tree")) "__class__" = some (some (.builtin "object.__class__"))),
  decide (PySem.W.kitOne K (.type "int") (.ref (He.ga K "Length")) = some false),
  PySem.W.readsIn K (He.ga K "Tree") (.type "type"),
  decide (PySem.W.specialIn K (.ref (He.ga K "Tree")) "__getattribute__" = some (some (.builtin "type.__getattribute__"))),
  largeB K (He.ga K "Tree"),
  decide (PySem.W.typeIn K (.ref (He.ma K (He.ga K "Grove") "__init__")) = some (.type "function")),
  PySem.W.fnIn K (He.ma K (He.ga K "Grove") "__init__"),
  PySem.W.isFn K (.ref (He.ma K (He.ga K "Grove") "__contains__")),
  PySem.W.isFn K (.ref (He.ma K (He.ga K "Grove") "__len__")),
  PySem.W.isFn K (.ref (He.ma K (He.ga K "Grove") "__eq__")),
  PySem.W.isFn K (.ref (He.ma K (He.ga K "Grove") "__rshift__")),
  PySem.W.isFn K (.ref (He.ma K (He.ga K "Tree") "__contains__")),
  PySem.W.isFn K (.ref (He.ma K (He.ga K "Tree") "__eq__"))]
def defsAt (K : PySem.W.Frag) : List Addr := [(He.ga K "gate_of"), (He.ga K "common"), (He.ga K "bridge_of"), (He.ga K "after"), (He.ga K "is_between"), (He.ga K "need_tree"), (He.ga K "need_some"), (He.ga K "made"), (He.ga K "within"), (He.ga K "need_places_shapes"), (He.ga K "is_word"), (He.ga K "is_strings"), (He.ga K "check_places"), (He.ga K "check_edges"), (He.ga K "joined"), (He.ga K "check_tree"), (He.ga K "gaps_from"), (He.ga K "_law_box"), (He.ga K "_law_take"), (He.ga K "_law_mixed"), (He.ga K "_law_names"), (He.ga K "_law_tree"), (He.ga K "_law_near"), (He.ga K "_law_gaps"), (He.ga K "_law_grove"), (He.ga K "_law_size"), (He.ga K "_law_ground"), (He.ga K "_law_shape"), (He.ga K "_law_composed"), (He.ga K "_law_bracketed"), (He.ga K "_law_row_right"), (He.ga K "law"), (He.ma K (He.ga K "Grove") "__init__"), (He.ma K (He.ga K "Grove") "__len__"), (He.ma K (He.ga K "Grove") "__contains__"), (He.ma K (He.ga K "Grove") "__eq__"), (He.ma K (He.ga K "Grove") "__rshift__"), (He.ma K (He.ga K "Grove") "__call__"), (He.ma K (He.ga K "Grove") "bridge"), (He.ma K (He.ga K "Grove") "sources"), (He.ma K (He.ga K "Made") "__init__"), (He.ma K (He.ga K "Length") "__init__"), (He.ma K (He.ga K "Ball") "__init__"), (He.ma K (He.ga K "Branch") "__init__"), (He.ma K (He.ga K "Way") "__init__"), (He.ma K (He.ga K "Whole") "__init__"), (He.ma K (He.ga K "Tree") "__init__"), (He.ma K (He.ga K "Tree") "__contains__"), (He.ma K (He.ga K "Tree") "__eq__")]
def defsVal : List FnX := [fval "gate_of" "gate_of" s_gate_of [],
  fval "common" "common" s_common [],
  fval "bridge_of" "bridge_of" s_bridge_of [],
  fval "after" "after" s_after [],
  fval "is_between" "is_between" s_is_between [],
  fval "need_tree" "need_tree" s_need_tree [],
  fval "need_some" "need_some" s_need_some [],
  fval "made" "made" s_made [],
  fval "within" "within" s_within [],
  fval "need_places" "need_places" s_need_places_shapes [],
  fval "is_word" "is_word" s_is_word [],
  fval "is_strings" "is_strings" s_is_strings [],
  fval "check_places" "check_places" s_check_places [],
  fval "check_edges" "check_edges" s_check_edges [],
  fval "joined" "joined" s_joined [],
  fval "check_tree" "check_tree" s_check_tree [],
  fval "gaps_from" "gaps_from" s_gaps_from [],
  fval "_law_box" "_law_box" s__law_box [],
  fval "_law_take" "_law_take" s__law_take [],
  fval "_law_mixed" "_law_mixed" s__law_mixed [],
  fval "_law_names" "_law_names" s__law_names [],
  fval "_law_tree" "_law_tree" s__law_tree [],
  fval "_law_near" "_law_near" s__law_near [],
  fval "_law_gaps" "_law_gaps" s__law_gaps [],
  fval "_law_grove" "_law_grove" s__law_grove [],
  fval "_law_size" "_law_size" s__law_size [],
  fval "_law_ground" "_law_ground" s__law_ground [],
  fval "_law_shape" "_law_shape" s__law_shape [],
  fval "_law_composed" "_law_composed" s__law_composed [],
  fval "_law_bracketed" "_law_bracketed" s__law_bracketed [],
  fval "_law_row_right" "_law_row_right" s__law_row_right [],
  fval "law" "law" s_law [],
  fval "__init__" "Grove.__init__" s_GroveX_initX [],
  fval "__len__" "Grove.__len__" s_GroveX_lenX [],
  fval "__contains__" "Grove.__contains__" s_GroveX_containsX [],
  fval "__eq__" "Grove.__eq__" s_GroveX_eqX [],
  fval "__rshift__" "Grove.__rshift__" s_GroveX_rshiftX [],
  fval "__call__" "Grove.__call__" s_GroveX_callX [],
  fval "bridge" "Grove.bridge" s_Grove_bridge [],
  fval "sources" "Grove.sources" s_Grove_sources [],
  fval "__init__" "Made.__init__" s_MadeX_initX [],
  fval "__init__" "Length.__init__" s_LengthX_initX [],
  fval "__init__" "Ball.__init__" s_BallX_initX ["__class__"],
  fval "__init__" "Branch.__init__" s_BranchX_initX ["__class__"],
  fval "__init__" "Way.__init__" s_WayX_initX ["__class__"],
  fval "__init__" "Whole.__init__" s_WholeX_initX ["__class__"],
  fval "__init__" "Tree.__init__" s_TreeX_initX [],
  fval "__contains__" "Tree.__contains__" s_TreeX_containsX [],
  fval "__eq__" "Tree.__eq__" s_TreeX_eqX []]
abbrev AlX : Type := Bool × List FnX
def obsX (K : PySem.W.Frag) : AlX := ((checks K).all id, (defsAt K).map (fobs K))
def valX : AlX := (true, defsVal)
def Says (K : PySem.W.Frag) : Prop := obsX K = valX
theorem Says.chk {K : PySem.W.Frag} (c : Says K) (i : Nat) {b : Bool} (h : (checks K)[i]? = some b) : b = true := by
  have c1 : (checks K).all id = true := congrArg (fun z : AlX => z.1) c
  exact List.all_eq_true.mp c1 b (List.mem_of_getElem? h)
theorem Says.fn_ {K : PySem.W.Frag} (c : Says K) (i : Nat) {f : Addr} {v : FnX} (h : (defsAt K)[i]? = some f) (h2 : defsVal[i]? = some v := by rfl) : fobs K f = v := by
  have c2 : (defsAt K).map (fobs K) = defsVal := congrArg (fun z : AlX => z.2) c
  have e : ((defsAt K).map (fobs K))[i]? = defsVal[i]? := by rw [c2]
  rw [List.getElem?_map, h, h2] at e
  exact Option.some.inj e
def clo1 (o : Obj) : List Addr := match o.data with
  | .func fd => fd.closure.map Prod.snd
  | _ => []
def asX (g : Addr → Option Obj) : List Addr := (fun as : List Addr => cStatics :: (as ++ as.flatMap fun a => match g a with | some o => clo1 o | none => [])) (He.asG g 4)
def hookX : PySem.W.Hook where
  α := AlX
  obs := fun s => obsX (He.frG s.heap.get? (asX s.heap.get?))
  val := fun _ => valX
  says := fun _ h => ∃ K : PySem.W.Frag, K.In h ∧ Says K
  of := fun _ _ e => ⟨_, He.frG_in, e⟩
  keeps := fun _ _ _ ⟨K, hK, c⟩ k => ⟨K, PySem.W.Frag.In.keeps hK k, c⟩
def ob (s : PySem.W.SharedT) : AlX := obsX (He.frG (HandSHeadRun.getT s) (asX (HandSHeadRun.getT s)))
theorem ob_eq (s : PySem.W.SharedT) : ob s = hookX.obs s.abs := by
  have e : HandSHeadRun.getT s = s.abs.heap.get? := funext (HandSHeadRun.getT_eq s)
  unfold ob
  rw [e]
  rfl
theorem txt {K : PySem.W.Frag} {h : Heap} {mg : Str → Option Value} (X : K.In h) (G : h.Ns mainGlobals mg) (c : Says K) : Txt R.prog K mg (adr K) where
  F_gate_of := (fun_of (c.fn_ 0 rfl) (c.chk 0 rfl) (c.chk 1 rfl))
  F_common := (fun_of (c.fn_ 1 rfl) (c.chk 2 rfl) (c.chk 3 rfl))
  F_bridge_of := (fun_of (c.fn_ 2 rfl) (c.chk 4 rfl) (c.chk 5 rfl))
  F_after := (fun_of (c.fn_ 3 rfl) (c.chk 6 rfl) (c.chk 7 rfl))
  F_is_between := (fun_of (c.fn_ 4 rfl) (c.chk 8 rfl) (c.chk 9 rfl))
  F_need_tree := (fun_of (c.fn_ 5 rfl) (c.chk 10 rfl) (c.chk 11 rfl))
  F_need_some := (fun_of (c.fn_ 6 rfl) (c.chk 12 rfl) (c.chk 13 rfl))
  F_made := (fun_of (c.fn_ 7 rfl) (c.chk 14 rfl) (c.chk 15 rfl))
  F_within := (fun_of (c.fn_ 8 rfl) (c.chk 16 rfl) (c.chk 17 rfl))
  F_need_places_shapes := (fun_of (c.fn_ 9 rfl) (c.chk 18 rfl) (c.chk 19 rfl))
  F_is_word := (fun_of (c.fn_ 10 rfl) (c.chk 20 rfl) (c.chk 21 rfl))
  F_is_strings := (fun_of (c.fn_ 11 rfl) (c.chk 22 rfl) (c.chk 23 rfl))
  F_check_places := (fun_of (c.fn_ 12 rfl) (c.chk 24 rfl) (c.chk 25 rfl))
  F_check_edges := (fun_of (c.fn_ 13 rfl) (c.chk 26 rfl) (c.chk 27 rfl))
  F_joined := (fun_of (c.fn_ 14 rfl) (c.chk 28 rfl) (c.chk 29 rfl))
  F_check_tree := (fun_of (c.fn_ 15 rfl) (c.chk 30 rfl) (c.chk 31 rfl))
  F_gaps_from := (fun_of (c.fn_ 16 rfl) (c.chk 32 rfl) (c.chk 33 rfl))
  F__law_box := (fun_of (c.fn_ 17 rfl) (c.chk 34 rfl) (c.chk 35 rfl))
  F__law_take := (fun_of (c.fn_ 18 rfl) (c.chk 36 rfl) (c.chk 37 rfl))
  F__law_mixed := (fun_of (c.fn_ 19 rfl) (c.chk 38 rfl) (c.chk 39 rfl))
  F__law_names := (fun_of (c.fn_ 20 rfl) (c.chk 40 rfl) (c.chk 41 rfl))
  F__law_tree := (fun_of (c.fn_ 21 rfl) (c.chk 42 rfl) (c.chk 43 rfl))
  F__law_near := (fun_of (c.fn_ 22 rfl) (c.chk 44 rfl) (c.chk 45 rfl))
  F__law_gaps := (fun_of (c.fn_ 23 rfl) (c.chk 46 rfl) (c.chk 47 rfl))
  F__law_grove := (fun_of (c.fn_ 24 rfl) (c.chk 48 rfl) (c.chk 49 rfl))
  F__law_size := (fun_of (c.fn_ 25 rfl) (c.chk 50 rfl) (c.chk 51 rfl))
  F__law_ground := (fun_of (c.fn_ 26 rfl) (c.chk 52 rfl) (c.chk 53 rfl))
  F__law_shape := (fun_of (c.fn_ 27 rfl) (c.chk 54 rfl) (c.chk 55 rfl))
  F__law_composed := (fun_of (c.fn_ 28 rfl) (c.chk 56 rfl) (c.chk 57 rfl))
  F__law_bracketed := (fun_of (c.fn_ 29 rfl) (c.chk 58 rfl) (c.chk 59 rfl))
  F__law_row_right := (fun_of (c.fn_ 30 rfl) (c.chk 60 rfl) (c.chk 61 rfl))
  F_law := (fun_of (c.fn_ 31 rfl) (c.chk 62 rfl) (c.chk 63 rfl))
  F_GroveX_initX := (fun_of (c.fn_ 32 rfl) (c.chk 64 rfl) (c.chk 65 rfl))
  F_GroveX_lenX := (fun_of (c.fn_ 33 rfl) (c.chk 66 rfl) (c.chk 67 rfl))
  F_GroveX_containsX := (fun_of (c.fn_ 34 rfl) (c.chk 68 rfl) (c.chk 69 rfl))
  F_GroveX_eqX := (fun_of (c.fn_ 35 rfl) (c.chk 70 rfl) (c.chk 71 rfl))
  F_GroveX_rshiftX := (fun_of (c.fn_ 36 rfl) (c.chk 72 rfl) (c.chk 73 rfl))
  F_GroveX_callX := (fun_of (c.fn_ 37 rfl) (c.chk 74 rfl) (c.chk 75 rfl))
  F_Grove_bridge := (fun_of (c.fn_ 38 rfl) (c.chk 76 rfl) (c.chk 77 rfl))
  F_Grove_sources := (fun_of (c.fn_ 39 rfl) (c.chk 78 rfl) (c.chk 79 rfl))
  F_MadeX_initX := (fun_of (c.fn_ 40 rfl) (c.chk 80 rfl) (c.chk 81 rfl))
  F_LengthX_initX := (fun_of (c.fn_ 41 rfl) (c.chk 82 rfl) (c.chk 83 rfl))
  F_BallX_initX := (funS_of (c.fn_ 42 rfl) (c.chk 84 rfl) (c.chk 85 rfl))
  SF_BallX_initX := (supF_of (c.fn_ 42 rfl) (by kernel_rfl) (c.chk 86 rfl) (c.chk 85 rfl) (c.chk 87 rfl) (of_decide_eq_true (c.chk 88 rfl)) (of_decide_eq_true (c.chk 89 rfl)))
  SC_BallX_initX := ⟨(of_decide_eq_true (c.chk 90 rfl)), (of_decide_eq_true (c.chk 91 rfl))⟩
  F_BranchX_initX := (funS_of (c.fn_ 43 rfl) (c.chk 92 rfl) (c.chk 93 rfl))
  SF_BranchX_initX := (supF_of (c.fn_ 43 rfl) (by kernel_rfl) (c.chk 94 rfl) (c.chk 93 rfl) (c.chk 95 rfl) (of_decide_eq_true (c.chk 88 rfl)) (of_decide_eq_true (c.chk 89 rfl)))
  SC_BranchX_initX := ⟨(of_decide_eq_true (c.chk 96 rfl)), (of_decide_eq_true (c.chk 97 rfl))⟩
  F_WayX_initX := (funS_of (c.fn_ 44 rfl) (c.chk 98 rfl) (c.chk 99 rfl))
  SF_WayX_initX := (supF_of (c.fn_ 44 rfl) (by kernel_rfl) (c.chk 100 rfl) (c.chk 99 rfl) (c.chk 101 rfl) (of_decide_eq_true (c.chk 88 rfl)) (of_decide_eq_true (c.chk 89 rfl)))
  SC_WayX_initX := ⟨(of_decide_eq_true (c.chk 102 rfl)), (of_decide_eq_true (c.chk 103 rfl))⟩
  F_WholeX_initX := (funS_of (c.fn_ 45 rfl) (c.chk 104 rfl) (c.chk 105 rfl))
  SF_WholeX_initX := (supF_of (c.fn_ 45 rfl) (by kernel_rfl) (c.chk 106 rfl) (c.chk 105 rfl) (c.chk 107 rfl) (of_decide_eq_true (c.chk 88 rfl)) (of_decide_eq_true (c.chk 89 rfl)))
  SC_WholeX_initX := ⟨(of_decide_eq_true (c.chk 108 rfl)), (of_decide_eq_true (c.chk 109 rfl))⟩
  F_TreeX_initX := (fun_of (c.fn_ 46 rfl) (c.chk 110 rfl) (c.chk 111 rfl))
  F_TreeX_containsX := (fun_of (c.fn_ 47 rfl) (c.chk 112 rfl) (c.chk 113 rfl))
  F_TreeX_eqX := (fun_of (c.fn_ 48 rfl) (c.chk 114 rfl) (c.chk 115 rfl))
  g_gate_of := ⟨(PySem.W.mg_of X G (of_decide_eq_true (c.chk 116 rfl))), (c.chk 1 rfl)⟩
  g_common := ⟨(PySem.W.mg_of X G (of_decide_eq_true (c.chk 117 rfl))), (c.chk 3 rfl)⟩
  g_bridge_of := ⟨(PySem.W.mg_of X G (of_decide_eq_true (c.chk 118 rfl))), (c.chk 5 rfl)⟩
  g_after := ⟨(PySem.W.mg_of X G (of_decide_eq_true (c.chk 119 rfl))), (c.chk 7 rfl)⟩
  g_is_between := ⟨(PySem.W.mg_of X G (of_decide_eq_true (c.chk 120 rfl))), (c.chk 9 rfl)⟩
  g_need_tree := ⟨(PySem.W.mg_of X G (of_decide_eq_true (c.chk 121 rfl))), (c.chk 11 rfl)⟩
  g_need_some := ⟨(PySem.W.mg_of X G (of_decide_eq_true (c.chk 122 rfl))), (c.chk 13 rfl)⟩
  g_made := ⟨(PySem.W.mg_of X G (of_decide_eq_true (c.chk 123 rfl))), (c.chk 15 rfl)⟩
  g_within := ⟨(PySem.W.mg_of X G (of_decide_eq_true (c.chk 124 rfl))), (c.chk 17 rfl)⟩
  g_need_places_shapes := ⟨(PySem.W.mg_of X G (of_decide_eq_true (c.chk 125 rfl))), (c.chk 19 rfl)⟩
  g_is_word := ⟨(PySem.W.mg_of X G (of_decide_eq_true (c.chk 126 rfl))), (c.chk 21 rfl)⟩
  g_is_strings := ⟨(PySem.W.mg_of X G (of_decide_eq_true (c.chk 127 rfl))), (c.chk 23 rfl)⟩
  g_check_places := ⟨(PySem.W.mg_of X G (of_decide_eq_true (c.chk 128 rfl))), (c.chk 25 rfl)⟩
  g_check_edges := ⟨(PySem.W.mg_of X G (of_decide_eq_true (c.chk 129 rfl))), (c.chk 27 rfl)⟩
  g_joined := ⟨(PySem.W.mg_of X G (of_decide_eq_true (c.chk 130 rfl))), (c.chk 29 rfl)⟩
  g_check_tree := ⟨(PySem.W.mg_of X G (of_decide_eq_true (c.chk 131 rfl))), (c.chk 31 rfl)⟩
  g_gaps_from := ⟨(PySem.W.mg_of X G (of_decide_eq_true (c.chk 132 rfl))), (c.chk 33 rfl)⟩
  g__law_box := ⟨(PySem.W.mg_of X G (of_decide_eq_true (c.chk 133 rfl))), (c.chk 35 rfl)⟩
  g__law_take := ⟨(PySem.W.mg_of X G (of_decide_eq_true (c.chk 134 rfl))), (c.chk 37 rfl)⟩
  g__law_mixed := ⟨(PySem.W.mg_of X G (of_decide_eq_true (c.chk 135 rfl))), (c.chk 39 rfl)⟩
  g__law_names := ⟨(PySem.W.mg_of X G (of_decide_eq_true (c.chk 136 rfl))), (c.chk 41 rfl)⟩
  g__law_tree := ⟨(PySem.W.mg_of X G (of_decide_eq_true (c.chk 137 rfl))), (c.chk 43 rfl)⟩
  g__law_near := ⟨(PySem.W.mg_of X G (of_decide_eq_true (c.chk 138 rfl))), (c.chk 45 rfl)⟩
  g__law_gaps := ⟨(PySem.W.mg_of X G (of_decide_eq_true (c.chk 139 rfl))), (c.chk 47 rfl)⟩
  g__law_grove := ⟨(PySem.W.mg_of X G (of_decide_eq_true (c.chk 140 rfl))), (c.chk 49 rfl)⟩
  g__law_size := ⟨(PySem.W.mg_of X G (of_decide_eq_true (c.chk 141 rfl))), (c.chk 51 rfl)⟩
  g__law_ground := ⟨(PySem.W.mg_of X G (of_decide_eq_true (c.chk 142 rfl))), (c.chk 53 rfl)⟩
  g__law_shape := ⟨(PySem.W.mg_of X G (of_decide_eq_true (c.chk 143 rfl))), (c.chk 55 rfl)⟩
  g__law_composed := ⟨(PySem.W.mg_of X G (of_decide_eq_true (c.chk 144 rfl))), (c.chk 57 rfl)⟩
  g__law_bracketed := ⟨(PySem.W.mg_of X G (of_decide_eq_true (c.chk 145 rfl))), (c.chk 59 rfl)⟩
  g__law_row_right := ⟨(PySem.W.mg_of X G (of_decide_eq_true (c.chk 146 rfl))), (c.chk 61 rfl)⟩
  g_law := ⟨(PySem.W.mg_of X G (of_decide_eq_true (c.chk 147 rfl))), (c.chk 63 rfl)⟩
  mg_Grove := (PySem.W.mg_of X G (of_decide_eq_true (c.chk 148 rfl)))
  cl_Grove := ⟨(c.chk 149 rfl), (c.chk 150 rfl), (c.chk 151 rfl), (of_decide_eq_true (c.chk 152 rfl))⟩
  mk_Grove := ⟨(c.chk 153 rfl), (of_decide_eq_true (c.chk 154 rfl)), (c.chk 155 rfl), (c.chk 156 rfl)⟩
  mg_Made := (PySem.W.mg_of X G (of_decide_eq_true (c.chk 157 rfl)))
  cl_Made := ⟨(c.chk 158 rfl), (c.chk 159 rfl), (c.chk 160 rfl), (of_decide_eq_true (c.chk 161 rfl))⟩
  mk_Made := ⟨(c.chk 162 rfl), (of_decide_eq_true (c.chk 163 rfl)), (c.chk 164 rfl), (c.chk 165 rfl)⟩
  mg_Ball := (PySem.W.mg_of X G (of_decide_eq_true (c.chk 166 rfl)))
  cl_Ball := ⟨(c.chk 167 rfl), (c.chk 168 rfl), (c.chk 169 rfl), (of_decide_eq_true (c.chk 170 rfl))⟩
  mk_Ball := ⟨(c.chk 171 rfl), (of_decide_eq_true (c.chk 172 rfl)), (c.chk 173 rfl), (c.chk 174 rfl)⟩
  mg_Branch := (PySem.W.mg_of X G (of_decide_eq_true (c.chk 175 rfl)))
  cl_Branch := ⟨(c.chk 176 rfl), (c.chk 177 rfl), (c.chk 178 rfl), (of_decide_eq_true (c.chk 179 rfl))⟩
  mk_Branch := ⟨(c.chk 180 rfl), (of_decide_eq_true (c.chk 181 rfl)), (c.chk 182 rfl), (c.chk 183 rfl)⟩
  mg_Way := (PySem.W.mg_of X G (of_decide_eq_true (c.chk 184 rfl)))
  cl_Way := ⟨(c.chk 185 rfl), (c.chk 186 rfl), (c.chk 187 rfl), (of_decide_eq_true (c.chk 188 rfl))⟩
  mk_Way := ⟨(c.chk 189 rfl), (of_decide_eq_true (c.chk 190 rfl)), (c.chk 191 rfl), (c.chk 192 rfl)⟩
  mg_Whole := (PySem.W.mg_of X G (of_decide_eq_true (c.chk 193 rfl)))
  cl_Whole := ⟨(c.chk 194 rfl), (c.chk 195 rfl), (c.chk 196 rfl), (of_decide_eq_true (c.chk 197 rfl))⟩
  mk_Whole := ⟨(c.chk 198 rfl), (of_decide_eq_true (c.chk 199 rfl)), (c.chk 200 rfl), (c.chk 201 rfl)⟩
  mg_Tree := (PySem.W.mg_of X G (of_decide_eq_true (c.chk 202 rfl)))
  cl_Tree := ⟨(c.chk 203 rfl), (c.chk 204 rfl), (c.chk 205 rfl), (of_decide_eq_true (c.chk 206 rfl))⟩
  mk_Tree := ⟨(c.chk 207 rfl), (of_decide_eq_true (c.chk 208 rfl)), (c.chk 209 rfl), (c.chk 210 rfl)⟩
  mg_Length := (PySem.W.mg_of X G (of_decide_eq_true (c.chk 211 rfl)))
  cl_Length := ⟨(c.chk 212 rfl), (c.chk 213 rfl), (c.chk 214 rfl), (of_decide_eq_true (c.chk 215 rfl))⟩
  mk_Length := ⟨(c.chk 216 rfl), (of_decide_eq_true (c.chk 217 rfl)), (c.chk 218 rfl), (c.chk 219 rfl)⟩
  na_own_places := (na_of (c.chk 220 rfl))
  na_own_edges := (na_of (c.chk 221 rfl))
  na_near := (na_of (c.chk 222 rfl))
  na_gaps := (na_of (c.chk 223 rfl))
  na_rank := (na_of (c.chk 224 rfl))
  na_size := (na_of (c.chk 225 rfl))
  na_own_centre := (na_of (c.chk 226 rfl))
  na_own_radius := (na_of (c.chk 227 rfl))
  na_own_root := (na_of (c.chk 228 rfl))
  na_own_ends := (na_of (c.chk 229 rfl))
  n_len := (PySem.W.mg_none_of X G (of_decide_eq_true (c.chk 230 rfl)))
  n_tuple := (PySem.W.mg_none_of X G (of_decide_eq_true (c.chk 231 rfl)))
  n_isinstance := (PySem.W.mg_none_of X G (of_decide_eq_true (c.chk 232 rfl)))
  n_all := (PySem.W.mg_none_of X G (of_decide_eq_true (c.chk 233 rfl)))
  n_enumerate := (PySem.W.mg_none_of X G (of_decide_eq_true (c.chk 234 rfl)))
  n_list := (PySem.W.mg_none_of X G (of_decide_eq_true (c.chk 235 rfl)))
  n_range := (PySem.W.mg_none_of X G (of_decide_eq_true (c.chk 236 rfl)))
  n_abs := (PySem.W.mg_none_of X G (of_decide_eq_true (c.chk 237 rfl)))
  n_int := (PySem.W.mg_none_of X G (of_decide_eq_true (c.chk 238 rfl)))
  n_max := (PySem.W.mg_none_of X G (of_decide_eq_true (c.chk 239 rfl)))
  n_min := (PySem.W.mg_none_of X G (of_decide_eq_true (c.chk 240 rfl)))
  n_super := (PySem.W.mg_none_of X G (of_decide_eq_true (c.chk 88 rfl)))
  n_str := (PySem.W.mg_none_of X G (of_decide_eq_true (c.chk 241 rfl)))
  letters := (He.str_ok X G (x := "LETTERS") (z := "abcdefghijklmnopqrstuvwxyz") (c.chk 242 rfl))
  gcl := (gcs ⟨(c.chk 149 rfl), (c.chk 150 rfl), (c.chk 151 rfl), (of_decide_eq_true (c.chk 152 rfl))⟩ ⟨(c.chk 158 rfl), (c.chk 159 rfl), (c.chk 160 rfl), (of_decide_eq_true (c.chk 161 rfl))⟩ ⟨(c.chk 167 rfl), (c.chk 168 rfl), (c.chk 169 rfl), (of_decide_eq_true (c.chk 170 rfl))⟩ ⟨(c.chk 176 rfl), (c.chk 177 rfl), (c.chk 178 rfl), (of_decide_eq_true (c.chk 179 rfl))⟩ ⟨(c.chk 185 rfl), (c.chk 186 rfl), (c.chk 187 rfl), (of_decide_eq_true (c.chk 188 rfl))⟩ ⟨(c.chk 194 rfl), (c.chk 195 rfl), (c.chk 196 rfl), (of_decide_eq_true (c.chk 197 rfl))⟩)
  gna_own := (gcs ((na_of (c.chk 243 rfl))) ((na_of (c.chk 244 rfl))) ((na_of (c.chk 245 rfl))) ((na_of (c.chk 246 rfl))) ((na_of (c.chk 247 rfl))) ((na_of (c.chk 248 rfl))))
  gna_own_tree := (gcs ((na_of (c.chk 249 rfl))) ((na_of (c.chk 250 rfl))) ((na_of (c.chk 251 rfl))) ((na_of (c.chk 252 rfl))) ((na_of (c.chk 253 rfl))) ((na_of (c.chk 254 rfl))))
  gm_bridge := (gcs ⟨(of_decide_eq_true (c.chk 255 rfl)), (c.chk 256 rfl), (c.chk 77 rfl)⟩ ⟨(of_decide_eq_true (c.chk 257 rfl)), (c.chk 256 rfl), (c.chk 77 rfl)⟩ ⟨(of_decide_eq_true (c.chk 258 rfl)), (c.chk 256 rfl), (c.chk 77 rfl)⟩ ⟨(of_decide_eq_true (c.chk 259 rfl)), (c.chk 256 rfl), (c.chk 77 rfl)⟩ ⟨(of_decide_eq_true (c.chk 260 rfl)), (c.chk 256 rfl), (c.chk 77 rfl)⟩ ⟨(of_decide_eq_true (c.chk 261 rfl)), (c.chk 256 rfl), (c.chk 77 rfl)⟩)
  gm_sources := (gcs ⟨(of_decide_eq_true (c.chk 262 rfl)), (c.chk 263 rfl), (c.chk 79 rfl)⟩ ⟨(of_decide_eq_true (c.chk 264 rfl)), (c.chk 263 rfl), (c.chk 79 rfl)⟩ ⟨(of_decide_eq_true (c.chk 265 rfl)), (c.chk 263 rfl), (c.chk 79 rfl)⟩ ⟨(of_decide_eq_true (c.chk 266 rfl)), (c.chk 263 rfl), (c.chk 79 rfl)⟩ ⟨(of_decide_eq_true (c.chk 267 rfl)), (c.chk 263 rfl), (c.chk 79 rfl)⟩ ⟨(of_decide_eq_true (c.chk 268 rfl)), (c.chk 263 rfl), (c.chk 79 rfl)⟩)
  gin := (gcs ((of_decide_eq_true (c.chk 269 rfl))) ((of_decide_eq_true (c.chk 270 rfl))) ((of_decide_eq_true (c.chk 271 rfl))) ((of_decide_eq_true (c.chk 272 rfl))) ((of_decide_eq_true (c.chk 273 rfl))) ((of_decide_eq_true (c.chk 274 rfl))))
  glen := (gcs ((of_decide_eq_true (c.chk 275 rfl))) ((of_decide_eq_true (c.chk 276 rfl))) ((of_decide_eq_true (c.chk 277 rfl))) ((of_decide_eq_true (c.chk 278 rfl))) ((of_decide_eq_true (c.chk 279 rfl))) ((of_decide_eq_true (c.chk 280 rfl))))
  gcall := (gcs ⟨(of_decide_eq_true (c.chk 281 rfl)), (c.chk 282 rfl), (c.chk 283 rfl)⟩ ⟨(of_decide_eq_true (c.chk 284 rfl)), (c.chk 282 rfl), (c.chk 283 rfl)⟩ ⟨(of_decide_eq_true (c.chk 285 rfl)), (c.chk 282 rfl), (c.chk 283 rfl)⟩ ⟨(of_decide_eq_true (c.chk 286 rfl)), (c.chk 282 rfl), (c.chk 283 rfl)⟩ ⟨(of_decide_eq_true (c.chk 287 rfl)), (c.chk 282 rfl), (c.chk 283 rfl)⟩ ⟨(of_decide_eq_true (c.chk 288 rfl)), (c.chk 282 rfl), (c.chk 283 rfl)⟩)
  geq := (gcs ⟨(of_decide_eq_true (c.chk 289 rfl)), (of_decide_eq_true (c.chk 290 rfl)), (of_decide_eq_true (c.chk 291 rfl))⟩ ⟨(of_decide_eq_true (c.chk 292 rfl)), (of_decide_eq_true (c.chk 293 rfl)), (of_decide_eq_true (c.chk 294 rfl))⟩ ⟨(of_decide_eq_true (c.chk 295 rfl)), (of_decide_eq_true (c.chk 296 rfl)), (of_decide_eq_true (c.chk 297 rfl))⟩ ⟨(of_decide_eq_true (c.chk 298 rfl)), (of_decide_eq_true (c.chk 299 rfl)), (of_decide_eq_true (c.chk 300 rfl))⟩ ⟨(of_decide_eq_true (c.chk 301 rfl)), (of_decide_eq_true (c.chk 302 rfl)), (of_decide_eq_true (c.chk 303 rfl))⟩ ⟨(of_decide_eq_true (c.chk 304 rfl)), (of_decide_eq_true (c.chk 305 rfl)), (of_decide_eq_true (c.chk 306 rfl))⟩)
  gsh := (gcs ⟨(c.chk 307 rfl), (of_decide_eq_true (c.chk 308 rfl)), (of_decide_eq_true (c.chk 309 rfl)), (c.chk 310 rfl)⟩ ⟨(c.chk 311 rfl), (of_decide_eq_true (c.chk 312 rfl)), (of_decide_eq_true (c.chk 313 rfl)), (c.chk 314 rfl)⟩ ⟨(c.chk 315 rfl), (of_decide_eq_true (c.chk 316 rfl)), (of_decide_eq_true (c.chk 317 rfl)), (c.chk 318 rfl)⟩ ⟨(c.chk 319 rfl), (of_decide_eq_true (c.chk 320 rfl)), (of_decide_eq_true (c.chk 321 rfl)), (c.chk 322 rfl)⟩ ⟨(c.chk 323 rfl), (of_decide_eq_true (c.chk 324 rfl)), (of_decide_eq_true (c.chk 325 rfl)), (c.chk 326 rfl)⟩ ⟨(c.chk 327 rfl), (of_decide_eq_true (c.chk 328 rfl)), (of_decide_eq_true (c.chk 329 rfl)), (c.chk 330 rfl)⟩)
  gsub := (gcs2 (gcs (.inl rfl) (.inr (Option.isSome_iff_exists.mp (c.chk 331 rfl))) (.inr (Option.isSome_iff_exists.mp (c.chk 332 rfl))) (.inr (Option.isSome_iff_exists.mp (c.chk 333 rfl))) (.inr (Option.isSome_iff_exists.mp (c.chk 334 rfl))) (.inr (Option.isSome_iff_exists.mp (c.chk 335 rfl)))) (gcs (.inr (Option.isSome_iff_exists.mp (c.chk 336 rfl))) (.inl rfl) (.inr (Option.isSome_iff_exists.mp (c.chk 337 rfl))) (.inr (Option.isSome_iff_exists.mp (c.chk 338 rfl))) (.inr (Option.isSome_iff_exists.mp (c.chk 339 rfl))) (.inr (Option.isSome_iff_exists.mp (c.chk 340 rfl)))) (gcs (.inr (Option.isSome_iff_exists.mp (c.chk 341 rfl))) (.inr (Option.isSome_iff_exists.mp (c.chk 342 rfl))) (.inl rfl) (.inr (Option.isSome_iff_exists.mp (c.chk 343 rfl))) (.inr (Option.isSome_iff_exists.mp (c.chk 344 rfl))) (.inr (Option.isSome_iff_exists.mp (c.chk 345 rfl)))) (gcs (.inr (Option.isSome_iff_exists.mp (c.chk 346 rfl))) (.inr (Option.isSome_iff_exists.mp (c.chk 347 rfl))) (.inr (Option.isSome_iff_exists.mp (c.chk 348 rfl))) (.inl rfl) (.inr (Option.isSome_iff_exists.mp (c.chk 349 rfl))) (.inr (Option.isSome_iff_exists.mp (c.chk 350 rfl)))) (gcs (.inr (Option.isSome_iff_exists.mp (c.chk 351 rfl))) (.inr (Option.isSome_iff_exists.mp (c.chk 352 rfl))) (.inr (Option.isSome_iff_exists.mp (c.chk 353 rfl))) (.inr (Option.isSome_iff_exists.mp (c.chk 354 rfl))) (.inl rfl) (.inr (Option.isSome_iff_exists.mp (c.chk 355 rfl)))) (gcs (.inr (Option.isSome_iff_exists.mp (c.chk 356 rfl))) (.inr (Option.isSome_iff_exists.mp (c.chk 357 rfl))) (.inr (Option.isSome_iff_exists.mp (c.chk 358 rfl))) (.inr (Option.isSome_iff_exists.mp (c.chk 359 rfl))) (.inr (Option.isSome_iff_exists.mp (c.chk 360 rfl))) (.inl rfl)))
  gki := (gcs ((of_decide_eq_true (c.chk 361 rfl))) ((of_decide_eq_true (c.chk 362 rfl))) ((of_decide_eq_true (c.chk 363 rfl))) ((of_decide_eq_true (c.chk 364 rfl))) ((of_decide_eq_true (c.chk 365 rfl))) ((of_decide_eq_true (c.chk 366 rfl))))
  gty := (gcs ⟨(of_decide_eq_true (c.chk 367 rfl)), (of_decide_eq_true (c.chk 368 rfl)), (of_decide_eq_true (c.chk 369 rfl)), (of_decide_eq_true (c.chk 291 rfl))⟩ ⟨(of_decide_eq_true (c.chk 370 rfl)), (of_decide_eq_true (c.chk 368 rfl)), (of_decide_eq_true (c.chk 369 rfl)), (of_decide_eq_true (c.chk 294 rfl))⟩ ⟨(of_decide_eq_true (c.chk 371 rfl)), (of_decide_eq_true (c.chk 368 rfl)), (of_decide_eq_true (c.chk 369 rfl)), (of_decide_eq_true (c.chk 297 rfl))⟩ ⟨(of_decide_eq_true (c.chk 372 rfl)), (of_decide_eq_true (c.chk 368 rfl)), (of_decide_eq_true (c.chk 369 rfl)), (of_decide_eq_true (c.chk 300 rfl))⟩ ⟨(of_decide_eq_true (c.chk 373 rfl)), (of_decide_eq_true (c.chk 368 rfl)), (of_decide_eq_true (c.chk 369 rfl)), (of_decide_eq_true (c.chk 303 rfl))⟩ ⟨(of_decide_eq_true (c.chk 374 rfl)), (of_decide_eq_true (c.chk 368 rfl)), (of_decide_eq_true (c.chk 369 rfl)), (of_decide_eq_true (c.chk 306 rfl))⟩)
  tin := (of_decide_eq_true (c.chk 375 rfl))
  teq := ⟨(of_decide_eq_true (c.chk 376 rfl)), (of_decide_eq_true (c.chk 377 rfl)), (of_decide_eq_true (c.chk 378 rfl))⟩
  tki := (of_decide_eq_true (c.chk 379 rfl))
  tty := ⟨(of_decide_eq_true (c.chk 380 rfl)), (of_decide_eq_true (c.chk 368 rfl)), (of_decide_eq_true (c.chk 369 rfl)), (of_decide_eq_true (c.chk 378 rfl))⟩
  lki := (of_decide_eq_true (c.chk 381 rfl))
  lread := ⟨(c.chk 382 rfl), (of_decide_eq_true (c.chk 383 rfl))⟩
  lval := (largest_of (c.chk 384 rfl))
  ginit_ty := (of_decide_eq_true (c.chk 385 rfl))
  ginit_fn := (c.chk 386 rfl)
  ptop := (by kernel_rfl)
  k_Grove_bridge := (c.chk 77 rfl)
  k_Grove_sources := (c.chk 79 rfl)
  fn_GroveX_containsX := (c.chk 387 rfl)
  fn_GroveX_lenX := (c.chk 388 rfl)
  fn_GroveX_eqX := (c.chk 389 rfl)
  fn_GroveX_rshiftX := (c.chk 390 rfl)
  fn_TreeX_containsX := (c.chk 391 rfl)
  fn_TreeX_eqX := (c.chk 392 rfl)
end Tw
namespace Tw
open PySem PySem.Spec PyProof.Rows L2
def nm0 : List PySem.Str := ["_wall", "__name__", "TowError", "BuildError", "UseError", "NoTree", "NoGrove", "NoMatch", "NoPlace", "gate_of", "common", "bridge_of", "after", "hull", "is_between", "need_tree", "need_some", "Grove", "Made", "made", "Length", "within", "need_places", "need_places_shapes", "Ball", "Branch", "Way", "Whole", "LETTERS", "is_word"]
def nm1 : List PySem.Str := ["is_strings", "check_places", "check_edges", "joined", "check_tree", "gaps_from", "need_places_trees", "Tree", "_law_box", "_law_take", "_law_mixed", "_law_names", "_law_tree", "_law_near", "_law_gaps", "_law_grove", "_law_size", "_law_ground", "_law_shape", "_law_composed", "_law_bracketed", "_law_row_right"]
def names : List PySem.Str := nm0 ++ nm1
theorem run (w : World) : HandSHeadRun.RunEq R (PySem.W.view R.prog [58]) hookX ob 20000 names w := by
  intro os
  kernel_rfl
end Tw
namespace Tw
open PySem PySem.Spec PyProof.Rows L2
theorem facts {w : World} {K : PySem.W.Frag} {h : Heap} {mg : Str → Option Value} {f : Addr} (X : K.In h) (G : h.Ns mainGlobals mg) (hfa : mg ("law" : Str) = some (.ref f)) (c : Says K) :
    ∃ fd : FuncData, (∀ (s : Shared) (v : Value), BindsTo s fd ⟨[v], []⟩ [("_law_script", v)]) ∧ ∀ base : Heap, K.In base → base.Ns mainGlobals mg → FnOk R.prog w K mg base CX0 7 f fd ["_law_script"] (spLaw K) := by
  have T := txt X G c
  obtain ⟨fd, F⟩ := T.F_law
  have e := hfa.symm.trans T.g_law.mg_
  cases e
  refine ⟨fd, fun s v => ?_, fun base _ _ => ok_law T F⟩
  obtain ⟨oc, od, kV, doc, pm, an, cdv, ct, osl, rfl, lk, hcd⟩ := F.ex
  exact .of_eq rfl
end Tw
open PySem PySem.W PySem.Calls PyProof.Rows
theorem PySem.Challenge.cw_towgrove_k72_whole_many_groves_in_a_row_holds : PySem.Challenge.rw_towgrove_k72_whole_many_groves_in_a_row.Holds := by
  w_on; o_law
  refine HandSHeadRun.head_any (r := OpenLaw.row PySem.Challenge.rw_towgrove_k72_whole_many_groves_in_a_row) (q := view (OpenLaw.row PySem.Challenge.rw_towgrove_k72_whole_many_groves_in_a_row).prog [58]) (H := Tw.hookX) (ob := Tw.ob) (M := 20000) (loose := Tw.names) (d := HandSHeadRun.topDef (OpenLaw.row PySem.Challenge.rw_towgrove_k72_whole_many_groves_in_a_row).prog 58) (kwd := []) Tw.ob_eq
    (by kernel_rfl) (fun s => by kernel_rfl) Tw.run (by kernel_rfl) (by kernel_rfl) (by kernel_rfl) (by rfl) (by first | assumption | decide +kernel) (by decide +kernel) ⟨rfl, rfl, rfl, rfl, rfl, by decide +kernel⟩ ?hw ?hc
  case hw => w_witness2
  case hc =>
    refine L2.walk_ofE (l := PySem.Challenge.rw_towgrove_k72_whole_many_groves_in_a_row) (n := 63) (k := 7) (x := "_law_script") (CX := L2.CX0) rfl (by decide) (by kernel_rfl) ⟨rfl, by decide, by decide⟩ ?F (fun _ _ _ _ z => z)
    intro w mg fa h Y G hmg0
    obtain ⟨K, KX, c⟩ := Y
    have hmg : mg ("law" : PySem.Str) = some (.ref fa) := by
      have e : (HandSHeadRun.topDef (OpenLaw.row PySem.Challenge.rw_towgrove_k72_whole_many_groves_in_a_row).prog 58).name = ("law" : PySem.Str) := by kernel_rfl
      rw [← e]
      exact hmg0
    obtain ⟨fd, hb, hF⟩ := Tw.facts (w := w) KX G hmg c
    exact ⟨K, fd, Tw.spLaw K, KX, hb, fun H a ns hl _ hS => ⟨a, ns, rfl, hS, Nat.le_trans hl (by decide), fun _ => rfl⟩, hF⟩
