import PyProof.Rows.All
import Wide.All
import OpenK.AllK
import Wide.FinOn
import HandS.ForMost
import HandS.ExcCtx
import HandS.ExcOwn
import HandS.Wide
import HandS.TupAny
import HandS.IsInst
import HandS.Replace
import PyProof.ReprRoads
import HandS.TupSets
import KE.SortData
import HandS.Strs
import HandS.Words
import HandS.ExcField
import HandS.ExcInit
import HandS.HotCalls
import HandS.SortInts
import HandS.Comp
import HandS.Ends
import PySem.Challenge.RW_nodisguise_k88_rings_apart
set_option Elab.async false
set_option linter.all false
set_option maxRecDepth 100000
set_option maxHeartbeats 4000000
/-! Sh0: a def's body as a plain function over PyData: the states, the judgements, the statements. -/
namespace Sh
open PySem L2
abbrev D := PyData
/-- what a slot holds: nothing, data, or a list of this run's own (by its number in the store) -/
inductive Sl where
  | no | dat (d : D) | own (k : Nat)
abbrev En := List Sl
abbrev Sto := List (Option (List D))
inductive Res where
  | stuck | ok (d : D) (L : Sto) | exc (c : Str) (d : D) (L : Sto)
inductive ResA where
  | stuck | ok (ds : List Sl) (L : Sto) | exc (c : Str) (d : D) (L : Sto)
inductive ResI where
  | stuck | ok (ds : List D) (L : Sto) | exc (c : Str) (d : D) (L : Sto)
inductive Flw where
  | stuck | next (ρ : En) (L : Sto) | ret (d : D) (L : Sto) | brk (ρ : En) (L : Sto) | cont (ρ : En) (L : Sto) | exc (c : Str) (d : D) (ρ : En) (L : Sto)
abbrev RE := En → Sto → Res
abbrev RA := En → Sto → ResA
abbrev RI := En → Sto → ResI
abbrev RS := En → Sto → Flw

section
variable {K : PySem.W.Frag} {F F' F'' H H' H'' : Hp}
mutual
theorem dp_mono (e : Same F F') : ∀ {v : V} {d : D}, Dp K F v d → Dp K F' v d
  | _, _, .non => .non
  | _, _, .bl b => .bl b
  | _, _, .int i => .int i
  | _, _, .str x => .str x
  | _, _, .lst h a => .lst (e.seq h) (dpa_mono e a)
  | _, _, .tup h a => .tup (seqT e h) (dpa_mono e a)
theorem dpa_mono (e : Same F F') : ∀ {vs : List V} {ds : List D}, DpAll K F vs ds → DpAll K F' vs ds
  | _, _, .nil => .nil
  | _, _, .cons h t => .cons (dp_mono e h) (dpa_mono e t)
theorem seqT (e : Same F F') {a : Addr} {xs : List V} (h : SqT K F a xs) : SqT K F' a xs := by
  rcases h with (h | ⟨o, h⟩) | h
  · exact Or.inl (Or.inl (e _ _ h))
  · exact Or.inl (Or.inr ⟨o, e _ _ h⟩)
  · exact Or.inr h
end
theorem dpa_len : ∀ {vs : List V} {ds : List D}, DpAll K F vs ds → vs.length = ds.length
  | _, _, .nil => rfl
  | _, _, .cons _ t => congrArg (· + 1) (dpa_len t)
theorem dpa_get : ∀ {vs : List V} {ds : List D} {i : Nat} {v : V}, DpAll K F vs ds → vs[i]? = some v → ∃ d, ds[i]? = some d ∧ Dp K F v d
  | _, _, i, _, .nil, h => by simp at h
  | _, _, 0, _, .cons h _, e => by
    simp at e
    subst e
    exact ⟨_, rfl, h⟩
  | _, _, i + 1, _, .cons _ t, e => by
    obtain ⟨d, h1, h2⟩ := dpa_get (i := i) t (by simpa using e)
    exact ⟨d, by simpa using h1, h2⟩
theorem dpa_get' : ∀ {vs : List V} {ds : List D} {i : Nat} {d : D}, DpAll K F vs ds → ds[i]? = some d → ∃ v, vs[i]? = some v ∧ Dp K F v d
  | _, _, i, _, .nil, h => by simp at h
  | _, _, 0, _, .cons h _, e => by
    simp at e
    subst e
    exact ⟨_, rfl, h⟩
  | _, _, i + 1, _, .cons _ t, e => by
    obtain ⟨d, h1, h2⟩ := dpa_get' (i := i) t (by simpa using e)
    exact ⟨d, by simpa using h1, h2⟩
theorem dpa_app : ∀ {vs ws : List V} {ds es : List D}, DpAll K F vs ds → DpAll K F ws es → DpAll K F (vs ++ ws) (ds ++ es)
  | _, _, _, _, .nil, h => h
  | _, _, _, _, .cons h t, g => .cons h (dpa_app t g)
theorem dpa_set {v : V} {d : D} (h : Dp K F v d) : ∀ {vs : List V} {ds : List D} (i : Nat), DpAll K F vs ds → DpAll K F (vs.set i v) (ds.set i d)
  | _, _, _, .nil => .nil
  | _, _, 0, .cons _ t => .cons h t
  | _, _, i + 1, .cons q t => .cons q (dpa_set h i t)
theorem dpa_take : ∀ {vs : List V} {ds : List D} (n : Nat), DpAll K F vs ds → DpAll K F (vs.take n) (ds.take n)
  | _, _, 0, _ => .nil
  | _, _, _ + 1, .nil => .nil
  | _, _, n + 1, .cons h t => .cons h (dpa_take n t)
theorem dpa_drop : ∀ {vs : List V} {ds : List D} (n : Nat), DpAll K F vs ds → DpAll K F (vs.drop n) (ds.drop n)
  | _, _, 0, h => h
  | _, _, _ + 1, .nil => .nil
  | _, _, n + 1, .cons _ t => dpa_drop n t
theorem dpa_mk {vs : List V} {f : V → D} (h : ∀ v ∈ vs, Dp K F v (f v)) : DpAll K F vs (vs.map f) := by
  induction vs with
  | nil => exact .nil
  | cons v r ih => exact .cons (h v (List.mem_cons_self ..)) (ih fun w hw => h w (List.mem_cons_of_mem _ hw))

/-! ### growth -/
structure Grow (F H F' H' : Hp) : Prop where
  ff : Same F F'
  hh : Same H H'
  fh : Same F' H'
  nw : ∀ p, F p = none → F' p ≠ none → H p = none
theorem Grow.refl (e : Same F H) : Grow F H F H := ⟨Same.refl _, Same.refl _, e, fun _ h g => absurd h g⟩
theorem same_none (e : Same F H) {p : Addr} (h : H p = none) : F p = none := e.free h
theorem same_upd {p : Addr} {o : HO} (h : H p = none) : Same H (upd H p o) := fun b u e => by
  rw [upd_ne (ne_of_none e h)]
  exact e
theorem Grow.alloc (e : Same F H) {p : Addr} {o : HO} (hp : H p = none) : Grow F H (upd F p o) (upd H p o) := by
  refine ⟨same_upd (same_none e hp), same_upd hp, fun b u q => ?_, fun b h g => ?_⟩
  · by_cases hb : b = p
    · subst hb
      rw [upd_same] at q ⊢
      exact q
    · rw [upd_ne hb] at q ⊢
      exact e b u q
  · by_cases hb : b = p
    · subst hb
      exact hp
    · rw [upd_ne hb] at g
      exact absurd h g
/-- only the real heap grows -/
theorem Grow.real (e : Same F H) (g : Same H H') : Grow F H F H' := ⟨Same.refl _, g, e.trans g, fun _ h g => absurd h g⟩
theorem Grow.trans (a : Grow F H F' H') (b : Grow F' H' F'' H'') : Grow F H F'' H'' :=
  ⟨a.ff.trans b.ff, a.hh.trans b.hh, b.fh, fun p h g => by
    cases q : F' p with
    | none => exact a.hh.free (b.nw p q g)
    | some o => exact a.nw p h (by rw [q]; intro z; cases z)⟩
end

/-! ### slots -/
def SlV (K : PySem.W.Frag) (F : Hp) (m : List Addr) : Sl → V → Prop
  | .no, _ => True
  | .dat d, v => Dp K F v d
  | .own k, v => ∃ a, m[k]? = some a ∧ v = .ref a
def SlO (K : PySem.W.Frag) (F : Hp) (m : List Addr) : Sl → Option V → Prop
  | .no, _ => True
  | .dat d, some v => Dp K F v d
  | .own k, some v => ∃ a, m[k]? = some a ∧ v = .ref a
  | _, none => False
theorem SlO.of {K : PySem.W.Frag} {F : Hp} {m : List Addr} {s : Sl} {v : V} (h : SlV K F m s v) : SlO K F m s (some v) := by
  cases s <;> exact h
theorem get_pre {α : Type} {m m' : List α} (h : m <+: m') {k : Nat} {a : α} (e : m[k]? = some a) : m'[k]? = some a := by
  obtain ⟨r, rfl⟩ := h
  obtain ⟨hk, _⟩ := List.getElem?_eq_some_iff.mp e
  rw [List.getElem?_append_left hk]
  exact e
theorem SlO.mono {K : PySem.W.Frag} {F F' : Hp} {m m' : List Addr} (e : Same F F') (hm : m <+: m') : ∀ {s : Sl} {o : Option V}, SlO K F m s o → SlO K F' m' s o
  | .no, _, _ => trivial
  | .dat _, some _, h => dp_mono e h
  | .own _, some _, ⟨a, h, q⟩ => ⟨a, get_pre hm h, q⟩
theorem SlV.mono {K : PySem.W.Frag} {F F' : Hp} {m m' : List Addr} (e : Same F F') (hm : m <+: m') : ∀ {s : Sl} {v : V}, SlV K F m s v → SlV K F' m' s v
  | .no, _, _ => trivial
  | .dat _, _, h => dp_mono e h
  | .own _, _, ⟨a, h, q⟩ => ⟨a, get_pre hm h, q⟩
section
variable {α β : Type} {R R' : α → β → Prop}
theorem paired_mono (f : ∀ a b, R a b → R' a b) : ∀ {l : List α} {k : List β}, Paired R l k → Paired R' l k
  | _, _, .nil => .nil
  | _, _, .cons h t => .cons (f _ _ h) (paired_mono f t)
theorem paired_len : ∀ {l : List α} {k : List β}, Paired R l k → l.length = k.length
  | _, _, .nil => rfl
  | _, _, .cons _ t => congrArg (· + 1) (paired_len t)
theorem paired_get : ∀ {l : List α} {k : List β} {i : Nat} {a : α}, Paired R l k → l[i]? = some a → ∃ b, k[i]? = some b ∧ R a b
  | _, _, _, _, .nil, h => by simp at h
  | _, _, 0, _, .cons h _, e => by
    simp at e
    subst e
    exact ⟨_, rfl, h⟩
  | _, _, i + 1, _, .cons _ t, e => by
    obtain ⟨b, h1, h2⟩ := paired_get (i := i) t (by simpa using e)
    exact ⟨b, by simpa using h1, h2⟩
theorem paired_set {a : α} {b : β} (h : R a b) : ∀ {l : List α} {k : List β} (i : Nat), Paired R l k → Paired R (l.set i a) (k.set i b)
  | _, _, _, .nil => .nil
  | _, _, 0, .cons _ t => .cons h t
  | _, _, i + 1, .cons q t => .cons q (paired_set h i t)
theorem paired_app : ∀ {l l' : List α} {k k' : List β}, Paired R l k → Paired R l' k' → Paired R (l ++ l') (k ++ k')
  | _, _, _, _, .nil, h => h
  | _, _, _, _, .cons h t, g => .cons h (paired_app t g)
theorem paired_rep {a : α} {b : β} (h : R a b) : ∀ n : Nat, Paired R (List.replicate n a) (List.replicate n b)
  | 0 => .nil
  | n + 1 => .cons h (paired_rep h n)
theorem paired_map {γ : Type} {f : β → γ} {R2 : α → γ → Prop} (g : ∀ a b, R a b → R2 a (f b)) : ∀ {l : List α} {k : List β}, Paired R l k → Paired R2 l (k.map f)
  | _, _, .nil => .nil
  | _, _, .cons h t => .cons (g _ _ h) (paired_map g t)
end

/-! ### the states -/
/-- where a def (a call, a turn) began -/
structure Bs where
  F : Hp
  m : List Addr
  H : Hp
structure Sta (K : PySem.W.Frag) (B : Bs) (F : Hp) (m : List Addr) (ρ : En) (L : Sto) (σ : L2.St) (H : Hp) : Prop where
  fh : Same F H
  ml : m.length = L.length
  nd : m.Nodup
  al : ∀ a ∈ m, H a ≠ none
  ow : ∀ (k : Nat) (a : Addr) (ds : List D), m[k]? = some a → L[k]? = some (some ds) → F a = none ∧ ∃ vs, H a = some (.lst vs) ∧ DpAll K F vs ds
  sl : Paired (SlO K F m) ρ σ
  bf : Same B.F F
  bn : ∀ p, B.F p = none → F p ≠ none → B.H p = none ∨ p ∈ B.m
  bh : ∀ p o, B.H p = some o → p ∉ B.m → H p = some o
  bm : B.m <+: m
  bw : ∀ p ∈ m, p ∈ B.m ∨ B.H p = none
section
variable {K : PySem.W.Frag} {B : Bs} {F F' : Hp} {m m' : List Addr} {ρ ρ' : En} {L L' : Sto} {σ σ' : L2.St} {H H' : Hp}
theorem Sta.grow (s : Sta K B F m ρ L σ H) (g : Grow F H F' H') : Sta K B F' m ρ L σ H' where
  fh := g.fh
  ml := s.ml
  nd := s.nd
  al := fun a ha z => s.al a ha (g.hh.free z)
  ow := fun k a ds h1 h2 => by
    obtain ⟨e, vs, hv, hd⟩ := s.ow k a ds h1 h2
    refine ⟨?_, vs, g.hh _ _ hv, dpa_mono g.ff hd⟩
    cases q : F' a with
    | none => rfl
    | some o =>
      have z := g.nw a e (by rw [q]; intro z; cases z)
      rw [hv] at z
      cases z
  sl := paired_mono (fun _ _ h => h.mono g.ff (List.prefix_refl m)) s.sl
  bf := s.bf.trans g.ff
  bn := fun p h z => by
    cases q : F p with
    | some o => exact s.bn p h (by rw [q]; intro z; cases z)
    | none =>
      have hp := g.nw p q z
      by_cases hm : p ∈ B.m
      · exact Or.inr hm
      · refine Or.inl ?_
        cases r : B.H p with
        | none => rfl
        | some o =>
          rw [s.bh p o r hm] at hp
          cases hp
  bh := fun p o h hm => g.hh _ _ (s.bh p o h hm)
  bm := s.bm
  bw := s.bw
/-- other slots over the same heap -/
theorem Sta.slots (s : Sta K B F m ρ L σ H) (h : Paired (SlO K F m) ρ' σ') : Sta K B F m ρ' L σ' H := { s with sl := h }
theorem Sta.base (s : Sta K B F m ρ L σ H) : Sta K ⟨F, m, H⟩ F m ρ L σ H :=
  { s with bf := Same.refl _, bn := fun _ h g => absurd h g, bh := fun _ _ h _ => h, bm := List.prefix_refl _, bw := fun _ h => Or.inl h }
theorem Sta.rebase (s : Sta K B F m ρ L σ H) (t : Sta K ⟨F, m, H⟩ F' m' ρ' L' σ' H') : Sta K B F' m' ρ' L' σ' H' :=
  { t with
    bf := s.bf.trans t.bf
    bn := fun p h z => by
      cases q : F p with
      | some o => exact s.bn p h (by rw [q]; intro z; cases z)
      | none =>
        rcases t.bn p q z with hp | hp
        · by_cases hm : p ∈ B.m
          · exact Or.inr hm
          · refine Or.inl ?_
            cases r : B.H p with
            | none => rfl
            | some o =>
              have e : H p = none := hp
              rw [s.bh p o r hm] at e
              cases e
        · exact (s.bw p hp).symm
    bh := fun p o h hm => t.bh p o (s.bh p o h hm) (fun hp => by
      rcases s.bw p hp with z | z
      · exact hm z
      · rw [z] at h
        cases h)
    bm := s.bm.trans t.bm
    bw := fun p hp => by
      rcases t.bw p hp with z | z
      · exact s.bw p z
      · by_cases hm : p ∈ B.m
        · exact Or.inl hm
        · refine Or.inr ?_
          cases r : B.H p with
          | none => rfl
          | some o =>
            have e : H p = none := z
            rw [s.bh p o r hm] at e
            cases e }
/-- back at the caller: the callee's own lists are let go -/
theorem Sta.cut (s : Sta K B F m ρ L σ H) (t : Sta K ⟨F, m, H⟩ F' m' ρ' L' σ' H') : Sta K B F' m ρ (L'.take L.length) σ H' := by
  have r := s.rebase t
  have pm : m <+: m' := t.bm
  have lm : m.length ≤ m'.length := pm.length_le
  exact { fh := r.fh
          ml := by rw [List.length_take, ← r.ml, s.ml, Nat.min_eq_left]; rw [← s.ml]; exact lm
          nd := s.nd
          al := fun a ha => r.al a (pm.subset ha)
          ow := fun k a ds h1 h2 => by
            have hk : k < L.length := by
              rw [← s.ml]
              exact (List.getElem?_eq_some_iff.mp h1).1
            rw [List.getElem?_take_of_lt hk] at h2
            exact r.ow k a ds (get_pre pm h1) h2
          sl := paired_mono (fun _ _ h => h.mono t.bf (List.prefix_refl m)) s.sl
          bf := r.bf
          bn := r.bn
          bh := r.bh
          bm := s.bm
          bw := s.bw }
end

/-! ### what is wanted behind -/
/-- an exception of the class that the module calls c, with d in its field at -/
def XR (K : PySem.W.Frag) (mg : Str → Option Value) (F H : Hp) (c : Str) (d : D) (cls : Value) (dd : Option Addr) : Prop :=
  ∃ (C a : Addr) (v : V), mg c = some (.ref C) ∧ cls = .ref C ∧ dd = some a ∧ H a = some (.xd [(("at" : Str), v)]) ∧ Dp K F v d
section
variable (K : PySem.W.Frag) (mg : Str → Option Value) (B : Bs) (W : WX) (F : Hp) (m : List Addr) (ρ : En) (σ : L2.St)
def PostE (Q : VK) : Res → Prop
  | .stuck => False
  | .ok d L' => ∀ v F' H', Same F F' → Sta K B F' m ρ L' σ H' → Dp K F' v d → Q v H'
  | .exc c d L' => ∀ cls dd F' H', Same F F' → Sta K B F' m ρ L' σ H' → XR K mg F' H' c d cls dd → W cls dd σ H'
def PostT (Q : Bool → Hp → Prop) : Res → Prop
  | .ok (.bool b) L' => ∀ F' H', Same F F' → Sta K B F' m ρ L' σ H' → Q b H'
  | .exc c d L' => ∀ cls dd F' H', Same F F' → Sta K B F' m ρ L' σ H' → XR K mg F' H' c d cls dd → W cls dd σ H'
  | _ => False
def PostA (Q : List V → Hp → Prop) : ResA → Prop
  | .stuck => False
  | .ok ds L' => ∀ vs F' H', Same F F' → Sta K B F' m ρ L' σ H' → Paired (SlV K F' m) ds vs → Q vs H'
  | .exc c d L' => ∀ cls dd F' H', Same F F' → Sta K B F' m ρ L' σ H' → XR K mg F' H' c d cls dd → W cls dd σ H'
def PostS (Dn : Ends) : Flw → Prop
  | .stuck => False
  | .next ρ' L' => ∀ F' m' σ' H', Same F F' → Sta K B F' m' ρ' L' σ' H' → Dn.nx σ' H'
  | .brk ρ' L' => ∀ F' m' σ' H', Same F F' → Sta K B F' m' ρ' L' σ' H' → Dn.bk σ' H'
  | .cont ρ' L' => ∀ F' m' σ' H', Same F F' → Sta K B F' m' ρ' L' σ' H' → Dn.ct σ' H'
  | .ret d L' => ∀ v F' m' ρ' σ' H', Same F F' → Sta K B F' m' ρ' L' σ' H' → Dp K F' v d → Dn.rt v H'
  | .exc c d ρ' L' => ∀ cls dd F' m' σ' H', Same F F' → Sta K B F' m' ρ' L' σ' H' → XR K mg F' H' c d cls dd → W cls dd σ' H'
end
section
variable {K : PySem.W.Frag} {mg : Str → Option Value} {B : Bs} {W : WX} {F F' : Hp} {m : List Addr} {ρ : En} {σ : L2.St}
theorem PostE.mono {Q : VK} (e : Same F F') : ∀ {r : Res}, PostE K mg B W F m ρ σ Q r → PostE K mg B W F' m ρ σ Q r
  | .stuck, h => h
  | .ok _ _, h => fun v F' H' z => h v F' H' (e.trans z)
  | .exc _ _ _, h => fun cls dd F' H' z => h cls dd F' H' (e.trans z)
theorem PostA.mono {Q : List V → Hp → Prop} (e : Same F F') : ∀ {r : ResA}, PostA K mg B W F m ρ σ Q r → PostA K mg B W F' m ρ σ Q r
  | .stuck, h => h
  | .ok _ _, h => fun v F' H' z => h v F' H' (e.trans z)
  | .exc _ _ _, h => fun cls dd F' H' z => h cls dd F' H' (e.trans z)
theorem PostT.mono {Q : Bool → Hp → Prop} (e : Same F F') : ∀ {r : Res}, PostT K mg B W F m ρ σ Q r → PostT K mg B W F' m ρ σ Q r := by
  intro r h
  unfold PostT at h ⊢
  split at h
  · exact fun F' H' z => h F' H' (e.trans z)
  · exact fun cls dd F' H' z => h cls dd F' H' (e.trans z)
  · exact h.elim
theorem PostS.mono {Dn : Ends} (e : Same F F') : ∀ {r : Flw}, PostS K mg B W F Dn r → PostS K mg B W F' Dn r
  | .stuck, h => h
  | .next _ _, h => fun F' m' σ' H' z => h F' m' σ' H' (e.trans z)
  | .brk _ _, h => fun F' m' σ' H' z => h F' m' σ' H' (e.trans z)
  | .cont _ _, h => fun F' m' σ' H' z => h F' m' σ' H' (e.trans z)
  | .ret _ _, h => fun v F' m' ρ' σ' H' z => h v F' m' ρ' σ' H' (e.trans z)
  | .exc _ _ _ _, h => fun cls dd F' m' σ' H' z => h cls dd F' m' σ' H' (e.trans z)
end

/-! ### the judgements -/
def tE (K : PySem.W.Frag) (mg : Str → Option Value) (W : WX) (r : RE) : TE := fun σ H Q => ∃ B F m ρ L, Sta K B F m ρ L σ H ∧ PostE K mg B W F m ρ σ Q (r ρ L)
def tT (K : PySem.W.Frag) (mg : Str → Option Value) (W : WX) (r : RE) : TT := fun σ H Q => ∃ B F m ρ L, Sta K B F m ρ L σ H ∧ PostT K mg B W F m ρ σ Q (r ρ L)
def tA (K : PySem.W.Frag) (mg : Str → Option Value) (W : WX) (r : RA) : TA := fun σ H Q => ∃ B F m ρ L, Sta K B F m ρ L σ H ∧ PostA K mg B W F m ρ σ Q (r ρ L)
def tS (K : PySem.W.Frag) (mg : Str → Option Value) (W : WX) (r : RS) : TS := fun Dn σ H => ∃ B F m ρ L, Sta K B F m ρ L σ H ∧ PostS K mg B W F Dn (r ρ L)
def DE (X : Cx) (W : WX) (e : Expr) (r : RE) : Prop := PE X e (tE X.K X.mg W r)
def DT (X : Cx) (W : WX) (e : Expr) (r : RE) : Prop := PT X e (tT X.K X.mg W r)
def DW (X : Cx) (W : WX) (e : Expr) (r : RE) : Prop := PW X e (tT X.K X.mg W r)
def DA (X : Cx) (W : WX) (es : List Expr) (r : RA) : Prop := PA X es (tA X.K X.mg W r)
def DS (X : Cx) (W : WX) (st : Stmt) (r : RS) : Prop := PS X st (tS X.K X.mg W r)
def DSs (X : Cx) (W : WX) (st : List Stmt) (r : RS) : Prop := PSs X st (tS X.K X.mg W r)
theorem pe_imp {X : Cx} {e : Expr} {t t' : TE} (h : PE X e t) (f : ∀ σ H Q, t' σ H Q → t σ H Q) : PE X e t' := ⟨fun pins s σ H Q I q => h.run pins s σ H Q I (f σ H Q q)⟩
theorem pt_imp {X : Cx} {e : Expr} {t t' : TT} (h : PT X e t) (f : ∀ σ H Q, t' σ H Q → t σ H Q) : PT X e t' := ⟨fun pins s σ H Q I q => h.run pins s σ H Q I (f σ H Q q)⟩
theorem pw_imp {X : Cx} {e : Expr} {t t' : TT} (h : PW X e t) (f : ∀ σ H Q, t' σ H Q → t σ H Q) : PW X e t' := ⟨fun wh pins s σ H Q I q => h.run wh pins s σ H Q I (f σ H Q q)⟩
theorem pa_imp {X : Cx} {e : List Expr} {t t' : TA} (h : PA X e t) (f : ∀ σ H Q, t' σ H Q → t σ H Q) : PA X e t' := ⟨fun pos pins s σ H Q I q => h.run pos pins s σ H Q I (f σ H Q q)⟩
theorem ps_imp {X : Cx} {e : Stmt} {t t' : TS} (h : PS X e t) (f : ∀ Dn σ H, t' Dn σ H → t Dn σ H) : PS X e t' := ⟨fun pins s σ H Dn I q => h.run pins s σ H Dn I (f Dn σ H q)⟩
theorem pss_imp {X : Cx} {e : List Stmt} {t t' : TS} (h : PSs X e t) (f : ∀ Dn σ H, t' Dn σ H → t Dn σ H) : PSs X e t' := ⟨fun pins s σ H Dn I q => h.run pins s σ H Dn I (f Dn σ H q)⟩

/-! ### expressions: names, constants, and, or, not, if -/
def rVar (i : Nat) : RE := fun ρ L => match ρ[i]? with
  | some (.dat d) => .ok d L
  | _ => .stuck
def rC (d : D) : RE := fun _ L => .ok d L
def bindE (a : Res) (k : D → Sto → Res) : Res := match a with
  | .stuck => .stuck
  | .ok d L => k d L
  | .exc c d L => .exc c d L
section
variable {X : Cx} {W : WX} {e a b c : Expr} {ra rb rc : RE} {pos : Pos}
/-- how one works with two readings in a row -/
theorem tE_bind {K : PySem.W.Frag} {mg : Str → Option Value} {ra : RE} {g : D → Sto → Res} {σ : L2.St} {H : Hp} {Q : VK} (B : Bs) (F : Hp) (m : List Addr) (ρ : En) (L : Sto) (s : Sta K B F m ρ L σ H) (h : PostE K mg B W F m ρ σ Q (bindE (ra ρ L) g))
    {R : VK} (hR : ∀ d L' v F' H', Same F F' → Sta K B F' m ρ L' σ H' → Dp K F' v d → PostE K mg B W F' m ρ σ Q (g d L') → R v H') : tE K mg W ra σ H R := by
  refine ⟨B, F, m, ρ, L, s, ?_⟩
  cases hr : ra ρ L with
  | stuck =>
    rw [hr] at h
    exact h.elim
  | ok d L' =>
    rw [hr] at h
    exact fun v F' H' e s' dv => hR d L' v F' H' e s' dv (PostE.mono e h)
  | exc c d L' =>
    rw [hr] at h
    exact h
theorem dE_var {i : Nat} {x : Str} (hN : X.N[i]? = some x := by rfl) (hv : Vis X.env.scope x := by first | exact Or.inl rfl | exact Or.inr (Or.inl rfl) | exact Or.inr (Or.inr rfl)) (hd : (x == ("__debug__" : Str)) = false := by decide)
    (hcd : (x == ("__classdict__" : Str)) = false := by decide) : DE X W (.Name x pos) (rVar i) := by
  refine pe_imp (pe_var (i := i) hN hv hd hcd) fun σ H Q ⟨B, F, m, ρ, L, s, h⟩ => ?_
  cases hr : ρ[i]? with
  | none =>
    rw [show rVar i ρ L = .stuck by unfold rVar; rw [hr]] at h
    exact h.elim
  | some sl =>
    cases sl with
    | no =>
      rw [show rVar i ρ L = .stuck by unfold rVar; rw [hr]] at h
      exact h.elim
    | own k =>
      rw [show rVar i ρ L = .stuck by unfold rVar; rw [hr]] at h
      exact h.elim
    | dat d =>
      rw [show rVar i ρ L = .ok d L by unfold rVar; rw [hr]] at h
      obtain ⟨o, ho, hs⟩ := paired_get s.sl hr
      cases o with
      | none => exact hs.elim
      | some v => exact ⟨v, ho, h v F H (Same.refl _) s hs⟩
theorem dE_c {d : D} {v : V} (h : PE X e (tC v)) (hd : ∀ F, Dp X.K F v d) : DE X W e (rC d) :=
  pe_imp h fun σ H Q ⟨B, F, m, ρ, L, s, q⟩ => q v F H (Same.refl _) s (hd F)
theorem dE_int {i : Int} {j} : DE X W (.Constant (.int i) j pos) (rC (.int i)) := dE_c pe_int fun _ => .int i
theorem dE_bl {i : Bool} {j} : DE X W (.Constant (.bool i) j pos) (rC (.bool i)) := dE_c pe_bl fun _ => .bl i
theorem dE_non {j} : DE X W (.Constant .none j pos) (rC .none) := dE_c pe_non fun _ => .non
theorem dE_str {x : Str} {j} : DE X W (.Constant (.str x) j pos) (rC (.str x)) := dE_c pe_str fun _ => .str x
theorem dE_globI {x : Str} {i : Int} {t : Tok} (hg : Gl X x) (hm : X.mg x = some (.int i t)) (hd : (x == ("__debug__" : Str)) = false := by decide) : DE X W (.Name x pos) (rC (.int i)) := dE_c (pe_glob (v := .int i) hg hm ⟨_, rfl⟩ hd) fun _ => .int i
theorem dE_globS {x : Str} {i : Str} {t : Tok} (hg : Gl X x) (hm : X.mg x = some (.str i t)) (hd : (x == ("__debug__" : Str)) = false := by decide) : DE X W (.Name x pos) (rC (.str i)) := dE_c (pe_glob (v := .str i) hg hm ⟨_, rfl⟩ hd) fun _ => .str i

def rAnd (ra rb : RE) : RE := fun ρ L => bindE (ra ρ L) fun d L1 => match d with
  | .bool true => rb ρ L1
  | .bool false => .ok (.bool false) L1
  | _ => .stuck
def rOr (ra rb : RE) : RE := fun ρ L => bindE (ra ρ L) fun d L1 => match d with
  | .bool true => .ok (.bool true) L1
  | .bool false => rb ρ L1
  | _ => .stuck
def rNot (ra : RE) : RE := fun ρ L => bindE (ra ρ L) fun d L1 => match d with
  | .bool b => .ok (.bool !b) L1
  | _ => .stuck
def rIfE (rc ra rb : RE) : RE := fun ρ L => bindE (rc ρ L) fun d L1 => match d with
  | .bool true => ra ρ L1
  | .bool false => rb ρ L1
  | _ => .stuck
variable {op : BoolOp} {rest : List Expr}
theorem dE_one {op} (h : DE X W a ra) : DE X W (.BoolOp op [a] pos) ra := pe_one h
theorem dE_and (ha : DE X W a ra) (hb : DE X W (.BoolOp .And (b :: rest) pos) rb) : DE X W (.BoolOp .And (a :: b :: rest) pos) (rAnd ra rb) := by
  refine pe_imp (pe_and ha hb) fun σ H Q ⟨B, F, m, ρ, L, s, h⟩ => ?_
  refine tE_bind B F m ρ L s h fun d L' v F' H' e s' dv q => ?_
  cases dv with
  | bl k =>
    refine ⟨k, rfl, ?_⟩
    cases k with
    | true => exact ⟨B, F', m, ρ, L', s', q⟩
    | false => exact q (.bl false) F' H' (Same.refl _) s' (.bl false)
  | non => exact q.elim
  | int i => exact q.elim
  | str i => exact q.elim
  | lst _ _ => exact q.elim
  | tup _ _ => exact q.elim
theorem dE_or (ha : DE X W a ra) (hb : DE X W (.BoolOp .Or (b :: rest) pos) rb) : DE X W (.BoolOp .Or (a :: b :: rest) pos) (rOr ra rb) := by
  refine pe_imp (pe_or ha hb) fun σ H Q ⟨B, F, m, ρ, L, s, h⟩ => ?_
  refine tE_bind B F m ρ L s h fun d L' v F' H' e s' dv q => ?_
  cases dv with
  | bl k =>
    refine ⟨k, rfl, ?_⟩
    cases k with
    | false => exact ⟨B, F', m, ρ, L', s', q⟩
    | true => exact q (.bl true) F' H' (Same.refl _) s' (.bl true)
  | non => exact q.elim
  | int i => exact q.elim
  | str i => exact q.elim
  | lst _ _ => exact q.elim
  | tup _ _ => exact q.elim
theorem dE_not (ha : DE X W a ra) : DE X W (.UnaryOp .Not a pos) (rNot ra) := by
  refine pe_imp (pe_not ha) fun σ H Q ⟨B, F, m, ρ, L, s, h⟩ => ?_
  refine tE_bind B F m ρ L s h fun d L' v F' H' e s' dv q => ?_
  cases dv with
  | bl k => exact ⟨k, rfl, q (.bl !k) F' H' (Same.refl _) s' (.bl !k)⟩
  | non => exact q.elim
  | int i => exact q.elim
  | str i => exact q.elim
  | lst _ _ => exact q.elim
  | tup _ _ => exact q.elim

/-! ### tests -/
/-- an expression that gives a bool, as a test -/
theorem dT_val (h : DE X W e ra) (he : ∀ whole, isTrue e X.env whole = (do let v ← whole; standAt e.pos; holding [v] (truthy v)) := by intro _; rfl) : DT X W e ra := by
  refine pt_imp (pt_val h he) fun σ H Q ⟨B, F, m, ρ, L, s, h⟩ => ?_
  refine ⟨B, F, m, ρ, L, s, ?_⟩
  cases hr : ra ρ L with
  | stuck =>
    rw [hr] at h
    exact h.elim
  | ok d L' =>
    rw [hr] at h
    intro v F' H' e s' dv
    cases dv with
    | bl k => exact ⟨k, rfl, h F' H' e s'⟩
    | non => exact h.elim
    | int i => exact h.elim
    | str i => exact h.elim
    | lst _ _ => exact h.elim
    | tup _ _ => exact h.elim
  | exc c d L' =>
    rw [hr] at h
    exact h
theorem tT_bind {K : PySem.W.Frag} {mg : Str → Option Value} {ra : RE} {g : D → Sto → Res} {σ : L2.St} {H : Hp} {Q : Bool → Hp → Prop} (B : Bs) (F : Hp) (m : List Addr) (ρ : En) (L : Sto) (s : Sta K B F m ρ L σ H) (h : PostT K mg B W F m ρ σ Q (bindE (ra ρ L) g))
    (hg : ∀ d L', (∀ b, d ≠ .bool b) → g d L' = .stuck)
    {R : Bool → Hp → Prop} (hR : ∀ b L' F' H', Same F F' → Sta K B F' m ρ L' σ H' → PostT K mg B W F' m ρ σ Q (g (.bool b) L') → R b H') : tT K mg W ra σ H R := by
  refine ⟨B, F, m, ρ, L, s, ?_⟩
  cases hr : ra ρ L with
  | stuck =>
    rw [hr] at h
    exact h.elim
  | exc c d L' =>
    rw [hr] at h
    exact h
  | ok d L' =>
    rw [hr] at h
    cases d with
    | bool b => exact fun F' H' e s' => hR b L' F' H' e s' (PostT.mono e h)
    | none => rw [show bindE (.ok .none L') g = .stuck from hg _ _ (fun b z => by cases z)] at h; exact h.elim
    | int i => rw [show bindE (.ok (.int i) L') g = .stuck from hg _ _ (fun b z => by cases z)] at h; exact h.elim
    | str i => rw [show bindE (.ok (.str i) L') g = .stuck from hg _ _ (fun b z => by cases z)] at h; exact h.elim
    | list i => rw [show bindE (.ok (.list i) L') g = .stuck from hg _ _ (fun b z => by cases z)] at h; exact h.elim
    | tuple i => rw [show bindE (.ok (.tuple i) L') g = .stuck from hg _ _ (fun b z => by cases z)] at h; exact h.elim
    | dict i => rw [show bindE (.ok (.dict i) L') g = .stuck from hg _ _ (fun b z => by cases z)] at h; exact h.elim
theorem rAnd_stuck {rb : RE} {ρ : En} : ∀ (d : D) (L' : Sto), (∀ b, d ≠ .bool b) → (match d with | .bool true => rb ρ L' | .bool false => .ok (.bool false) L' | _ => .stuck : Res) = .stuck := by
  intro d L' h
  cases d <;> first | rfl | exact absurd rfl (h _)
theorem rOr_stuck {rb : RE} {ρ : En} : ∀ (d : D) (L' : Sto), (∀ b, d ≠ .bool b) → (match d with | .bool true => .ok (.bool true) L' | .bool false => rb ρ L' | _ => .stuck : Res) = .stuck := by
  intro d L' h
  cases d <;> first | rfl | exact absurd rfl (h _)
theorem dW_and1 (h : DT X W a ra) : DW X W (.BoolOp .And [a] pos) ra := pw_and1 h
theorem dW_or1 (h : DT X W a ra) : DW X W (.BoolOp .Or [a] pos) ra := pw_or1 h
theorem dT_pw (h : DW X W a ra) : DT X W a ra := PW.pt h
theorem dW_and (ha : DT X W a ra) (hb : DW X W (.BoolOp .And (b :: rest) pos) rb) : DW X W (.BoolOp .And (a :: b :: rest) pos) (rAnd ra rb) := by
  refine pw_imp (pw_and ha hb) fun σ H Q ⟨B, F, m, ρ, L, s, h⟩ => ?_
  refine tT_bind B F m ρ L s h (rAnd_stuck (rb := rb)) fun b L' F' H' e s' q => ?_
  cases b with
  | true => exact ⟨B, F', m, ρ, L', s', q⟩
  | false => exact q F' H' (Same.refl _) s'
theorem dW_or (ha : DT X W a ra) (hb : DW X W (.BoolOp .Or (b :: rest) pos) rb) : DW X W (.BoolOp .Or (a :: b :: rest) pos) (rOr ra rb) := by
  refine pw_imp (pw_or ha hb) fun σ H Q ⟨B, F, m, ρ, L, s, h⟩ => ?_
  refine tT_bind B F m ρ L s h (rOr_stuck (rb := rb)) fun b L' F' H' e s' q => ?_
  cases b with
  | false => exact ⟨B, F', m, ρ, L', s', q⟩
  | true => exact q F' H' (Same.refl _) s'
theorem dT_not (ha : DT X W a ra) : DT X W (.UnaryOp .Not a pos) (rNot ra) := by
  refine pt_imp (pt_not ha) fun σ H Q ⟨B, F, m, ρ, L, s, h⟩ => ?_
  refine tT_bind B F m ρ L s h (fun d L' z => by cases d <;> first | rfl | exact absurd rfl (z _)) fun b L' F' H' e s' q => ?_
  exact q F' H' (Same.refl _) s'
theorem dE_if (hc : DT X W c rc) (ha : DE X W a ra) (hb : DE X W b rb) : DE X W (.IfExp c a b pos) (rIfE rc ra rb) := by
  refine pe_imp (pe_ifExp hc ha hb) fun σ H Q ⟨B, F, m, ρ, L, s, h⟩ => ?_
  refine ⟨B, F, m, ρ, L, s, ?_⟩
  have h : PostE X.K X.mg B W F m ρ σ Q (bindE (rc ρ L) fun d L1 => match d with | .bool true => ra ρ L1 | .bool false => rb ρ L1 | _ => .stuck) := h
  cases hr : rc ρ L with
  | stuck =>
    rw [hr] at h
    exact h.elim
  | exc c d L' =>
    rw [hr] at h
    exact h
  | ok d L' =>
    rw [hr] at h
    cases d with
    | bool k =>
      cases k with
      | true => exact fun F' H' e s' => ⟨B, F', m, ρ, L', s', PostE.mono e h⟩
      | false => exact fun F' H' e s' => ⟨B, F', m, ρ, L', s', PostE.mono e h⟩
    | none => exact h.elim
    | int i => exact h.elim
    | str i => exact h.elim
    | list i => exact h.elim
    | tuple i => exact h.elim
    | dict i => exact h.elim
end
end Sh
set_option maxRecDepth 100000
set_option maxHeartbeats 4000000
/-! Sh1: statements. -/
namespace Sh
open PySem L2
section
variable {K : PySem.W.Frag} {mg : Str → Option Value} {B : Bs} {W : WX} {F F' : Hp} {m m' : List Addr} {ρ ρ' : En} {L L' : Sto} {σ σ' : L2.St} {H H' : Hp}
/-! ### the store -/
theorem nodup_at {l : List Addr} (h : l.Nodup) {i j : Nat} {a : Addr} (e1 : l[i]? = some a) (e2 : l[j]? = some a) : i = j := nd_ix h e1 e2
theorem Sta.write (s : Sta K B F m ρ L σ H) {k : Nat} {a : Addr} {vs vs' : List V} {ds ds' : List D} (hk : m[k]? = some a) (hL : L[k]? = some (some ds)) (hH : H a = some (.lst vs)) (hd : DpAll K F vs' ds') :
    Sta K B F m ρ (L.set k (some ds')) σ (upd H a (.lst vs')) where
  fh := fun b o q => by
    have ne : b ≠ a := fun z => by
      rw [z, (s.ow k a ds hk hL).1] at q
      cases q
    rw [upd_ne ne]
    exact s.fh b o q
  ml := by rw [List.length_set]; exact s.ml
  nd := s.nd
  al := fun b hb z => by
    by_cases e : b = a
    · rw [e, upd_same] at z
      cases z
    · rw [upd_ne e] at z
      exact s.al b hb z
  ow := fun j b es h1 h2 => by
    by_cases e : j = k
    · subst e
      have eb : b = a := Option.some.inj (h1.symm.trans hk)
      subst eb
      have hlt : j < L.length := (List.getElem?_eq_some_iff.mp hL).1
      rw [List.getElem?_set_self hlt] at h2
      have e2 : ds' = es := Option.some.inj (Option.some.inj h2)
      subst e2
      exact ⟨(s.ow j b ds hk hL).1, vs', upd_same, hd⟩
    · rw [List.getElem?_set_ne (Ne.symm e)] at h2
      obtain ⟨q, ws, hw, hd2⟩ := s.ow j b es h1 h2
      have ne : b ≠ a := fun z => by
        subst z
        exact e (nodup_at s.nd h1 hk)
      exact ⟨q, ws, by rw [upd_ne ne]; exact hw, hd2⟩
  sl := s.sl
  bf := s.bf
  bn := s.bn
  bh := fun p o h hm => by
    have ne : p ≠ a := fun z => by
      subst z
      rcases s.bw p (List.mem_of_getElem? hk) with q | q
      · exact hm q
      · rw [q] at h
        cases h
    rw [upd_ne ne]
    exact s.bh p o h hm
  bm := s.bm
  bw := s.bw
theorem Sta.push (s : Sta K B F m ρ L σ H) {p : Addr} {vs : List V} {ds : List D} (hp : H p = none) (hd : DpAll K F vs ds) :
    Sta K B F (m ++ [p]) ρ (L ++ [some ds]) σ (upd H p (.lst vs)) := by
  have hF : F p = none := s.fh.free hp
  have hm : p ∉ m := fun z => s.al p z hp
  have pre : m <+: m ++ [p] := List.prefix_append _ _
  exact {
  fh := s.fh.trans (same_upd hp)
  ml := by rw [List.length_append, List.length_append, s.ml]; rfl
  nd := by
    rw [List.nodup_append]
    exact ⟨s.nd, by simp, fun a ha b hb z => by
      have e : b = p := by simpa using hb
      subst e
      subst z
      exact hm ha⟩
  al := fun a ha z => by
    by_cases e : a = p
    · rw [e, upd_same] at z
      cases z
    · rw [upd_ne e] at z
      rcases List.mem_append.mp ha with q | q
      · exact s.al a q z
      · exact e (by simpa using q)
  ow := fun k a es h1 h2 => by
    by_cases hk : k < m.length
    · rw [List.getElem?_append_left hk] at h1
      rw [List.getElem?_append_left (by rw [← s.ml]; exact hk)] at h2
      obtain ⟨q, ws, hw, hd2⟩ := s.ow k a es h1 h2
      exact ⟨q, ws, by rw [upd_ne (ne_of_none hw hp)]; exact hw, hd2⟩
    · have hk2 : m.length ≤ k := Nat.le_of_not_lt hk
      rw [List.getElem?_append_right hk2] at h1
      rw [List.getElem?_append_right (by rw [← s.ml]; exact hk2), ← s.ml] at h2
      cases e : k - m.length with
      | zero =>
        rw [e] at h1 h2
        have e1 : p = a := Option.some.inj h1
        have e2 : ds = es := Option.some.inj (Option.some.inj h2)
        subst e1
        subst e2
        exact ⟨hF, vs, upd_same, hd⟩
      | succ n =>
        rw [e] at h1
        simp at h1
  sl := paired_mono (fun _ _ h => h.mono (Same.refl _) pre) s.sl
  bf := s.bf
  bn := s.bn
  bh := fun q o h hm2 => same_upd hp _ _ (s.bh q o h hm2)
  bm := s.bm.trans pre
  bw := fun q hq => by
    rcases List.mem_append.mp hq with z | z
    · exact s.bw q z
    · have e : q = p := by simpa using z
      subst e
      by_cases hm2 : q ∈ B.m
      · exact Or.inl hm2
      · refine Or.inr ?_
        cases r : B.H q with
        | none => rfl
        | some o =>
          rw [s.bh q o r hm2] at hp
          cases hp }
theorem Sta.freeze (s : Sta K B F m ρ L σ H) {k : Nat} {a : Addr} {vs : List V} {ds : List D} (hk : m[k]? = some a) (hL : L[k]? = some (some ds)) (hH : H a = some (.lst vs)) (hd : DpAll K F vs ds) :
    Same F (upd F a (.lst vs)) ∧ Sta K B (upd F a (.lst vs)) m ρ (L.set k none) σ H := by
  have hF := (s.ow k a ds hk hL).1
  have e : Same F (upd F a (.lst vs)) := same_upd hF
  exact ⟨e, {
  fh := fun b o q => by
    by_cases z : b = a
    · subst z
      rw [upd_same] at q
      rw [hH]
      exact q
    · rw [upd_ne z] at q
      exact s.fh b o q
  ml := by rw [List.length_set]; exact s.ml
  nd := s.nd
  al := s.al
  ow := fun j b es h1 h2 => by
    by_cases ej : j = k
    · subst ej
      have hlt : j < L.length := (List.getElem?_eq_some_iff.mp hL).1
      rw [List.getElem?_set_self hlt] at h2
      cases h2
    · rw [List.getElem?_set_ne (Ne.symm ej)] at h2
      obtain ⟨q, ws, hw, hd2⟩ := s.ow j b es h1 h2
      have ne : b ≠ a := fun z => by
        subst z
        exact ej (nodup_at s.nd h1 hk)
      exact ⟨by rw [upd_ne ne]; exact q, ws, hw, dpa_mono e hd2⟩
  sl := paired_mono (fun _ _ h => h.mono e (List.prefix_refl m)) s.sl
  bf := s.bf.trans e
  bn := fun p h z => by
    by_cases ep : p = a
    · subst ep
      exact (s.bw p (List.mem_of_getElem? hk)).symm
    · rw [upd_ne ep] at z
      exact s.bn p h z
  bh := s.bh
  bm := s.bm
  bw := s.bw }⟩
/-- a slot set -/
theorem Sta.set (s : Sta K B F m ρ L σ H) (i : Nat) {x : Sl} {o : Option V} (h : SlO K F m x o) : Sta K B F m (ρ.set i x) L (σ.set i o) H := s.slots (paired_set h i s.sl)
end

/-! ### reading a part of a statement -/
def bindS (a : Res) (ρ : En) (g : D → Sto → Flw) : Flw := match a with
  | .stuck => .stuck
  | .ok d L => g d L
  | .exc c d L => .exc c d ρ L
def bindSA (a : ResA) (ρ : En) (g : List Sl → Sto → Flw) : Flw := match a with
  | .stuck => .stuck
  | .ok d L => g d L
  | .exc c d L => .exc c d ρ L
section
variable {X : Cx} {W : WX} {K : PySem.W.Frag} {mg : Str → Option Value} {ra rc : RE} {pos : Pos} {e c : Expr} {σ : L2.St} {H : Hp} {Dn : Ends}
theorem tE_S {g : D → Sto → Flw} (B : Bs) (F : Hp) (m : List Addr) (ρ : En) (L : Sto) (s : Sta K B F m ρ L σ H) (h : PostS K mg B W F Dn (bindS (ra ρ L) ρ g)) {R : VK}
    (hR : ∀ d L' v F' H', Same F F' → Sta K B F' m ρ L' σ H' → Dp K F' v d → PostS K mg B W F' Dn (g d L') → R v H') : tE K mg W ra σ H R := by
  refine ⟨B, F, m, ρ, L, s, ?_⟩
  cases hr : ra ρ L with
  | stuck =>
    rw [hr] at h
    exact h.elim
  | ok d L' =>
    rw [hr] at h
    exact fun v F' H' e s' dv => hR d L' v F' H' e s' dv (PostS.mono e h)
  | exc c d L' =>
    rw [hr] at h
    exact fun cls dd F' H' e s' x => h cls dd F' m σ H' e s' x
theorem tT_S {g : D → Sto → Flw} (B : Bs) (F : Hp) (m : List Addr) (ρ : En) (L : Sto) (s : Sta K B F m ρ L σ H) (h : PostS K mg B W F Dn (bindS (rc ρ L) ρ g)) (hg : ∀ d L', (∀ b, d ≠ .bool b) → g d L' = .stuck) {R : Bool → Hp → Prop}
    (hR : ∀ b L' F' H', Same F F' → Sta K B F' m ρ L' σ H' → PostS K mg B W F' Dn (g (.bool b) L') → R b H') : tT K mg W rc σ H R := by
  refine ⟨B, F, m, ρ, L, s, ?_⟩
  cases hr : rc ρ L with
  | stuck =>
    rw [hr] at h
    exact h.elim
  | exc c d L' =>
    rw [hr] at h
    exact fun cls dd F' H' e s' x => h cls dd F' m σ H' e s' x
  | ok d L' =>
    rw [hr] at h
    cases d with
    | bool b => exact fun F' H' e s' => hR b L' F' H' e s' (PostS.mono e h)
    | none => rw [show bindS (.ok .none L') ρ g = .stuck from hg _ _ (fun b z => by cases z)] at h; exact h.elim
    | int i => rw [show bindS (.ok (.int i) L') ρ g = .stuck from hg _ _ (fun b z => by cases z)] at h; exact h.elim
    | str i => rw [show bindS (.ok (.str i) L') ρ g = .stuck from hg _ _ (fun b z => by cases z)] at h; exact h.elim
    | list i => rw [show bindS (.ok (.list i) L') ρ g = .stuck from hg _ _ (fun b z => by cases z)] at h; exact h.elim
    | tuple i => rw [show bindS (.ok (.tuple i) L') ρ g = .stuck from hg _ _ (fun b z => by cases z)] at h; exact h.elim
    | dict i => rw [show bindS (.ok (.dict i) L') ρ g = .stuck from hg _ _ (fun b z => by cases z)] at h; exact h.elim
theorem tA_S {ra : RA} {g : List Sl → Sto → Flw} (B : Bs) (F : Hp) (m : List Addr) (ρ : En) (L : Sto) (s : Sta K B F m ρ L σ H) (h : PostS K mg B W F Dn (bindSA (ra ρ L) ρ g)) {R : List V → Hp → Prop}
    (hR : ∀ d L' v F' H', Same F F' → Sta K B F' m ρ L' σ H' → Paired (SlV K F' m) d v → PostS K mg B W F' Dn (g d L') → R v H') : tA K mg W ra σ H R := by
  refine ⟨B, F, m, ρ, L, s, ?_⟩
  cases hr : ra ρ L with
  | stuck =>
    rw [hr] at h
    exact h.elim
  | ok d L' =>
    rw [hr] at h
    exact fun v F' H' e s' dv => hR d L' v F' H' e s' dv (PostS.mono e h)
  | exc c d L' =>
    rw [hr] at h
    exact fun cls dd F' H' e s' x => h cls dd F' m σ H' e s' x

/-! ### blocks -/
def rNext : RS := fun ρ L => .next ρ L
def rSeq (a b : RS) : RS := fun ρ L => match a ρ L with
  | .next ρ' L' => b ρ' L'
  | .stuck => .stuck
  | .ret d L' => .ret d L'
  | .brk ρ' L' => .brk ρ' L'
  | .cont ρ' L' => .cont ρ' L'
  | .exc c d ρ' L' => .exc c d ρ' L'
variable {st : Stmt} {rest body orelse : List Stmt} {ta tb : RS}
theorem dSs_nil : DSs X W [] rNext := pss_imp pss_nil fun Dn σ H ⟨B, F, m, ρ, L, s, h⟩ => h F m σ H (Same.refl _) s
theorem dSs_one (h : DS X W st ta) : DSs X W [st] ta := pss_one h
theorem dSs_cons (h1 : DS X W st ta) (h2 : DSs X W rest tb) : DSs X W (st :: rest) (rSeq ta tb) := by
  refine pss_imp (pss_cons h1 h2) fun Dn σ H ⟨B, F, m, ρ, L, s, h⟩ => ⟨B, F, m, ρ, L, s, ?_⟩
  have h : PostS X.K X.mg B W F Dn (match ta ρ L with | .next ρ' L' => tb ρ' L' | .stuck => .stuck | .ret d L' => .ret d L' | .brk ρ' L' => .brk ρ' L' | .cont ρ' L' => .cont ρ' L' | .exc c d ρ' L' => .exc c d ρ' L') := h
  cases hr : ta ρ L with
  | stuck => rw [hr] at h; exact h.elim
  | next ρ' L' =>
    rw [hr] at h
    exact fun F' m' σ' H' e s' => ⟨B, F', m', ρ', L', s', PostS.mono e h⟩
  | ret d L' => rw [hr] at h; exact h
  | brk ρ' L' => rw [hr] at h; exact h
  | cont ρ' L' => rw [hr] at h; exact h
  | exc c d ρ' L' => rw [hr] at h; exact h
theorem dS_pass : DS X W (.Pass pos) rNext := ps_imp ps_pass fun Dn σ H ⟨B, F, m, ρ, L, s, h⟩ => h F m σ H (Same.refl _) s
theorem dS_break : DS X W (.Break pos) (fun ρ L => .brk ρ L) := ps_imp ps_break fun Dn σ H ⟨B, F, m, ρ, L, s, h⟩ => h F m σ H (Same.refl _) s
theorem dS_continue : DS X W (.Continue pos) (fun ρ L => .cont ρ L) := ps_imp ps_continue fun Dn σ H ⟨B, F, m, ρ, L, s, h⟩ => h F m σ H (Same.refl _) s
def rRet (re : RE) : RS := fun ρ L => bindS (re ρ L) ρ fun d L' => .ret d L'
theorem dS_ret (he : DE X W e ra) : DS X W (.Return (some e) pos) (rRet ra) := by
  refine ps_imp (ps_ret he) fun Dn σ H ⟨B, F, m, ρ, L, s, h⟩ => ?_
  exact tE_S B F m ρ L s h fun d L' v F' H' e s' dv q => q v F' m ρ σ H' (Same.refl _) s' dv
theorem dS_retN : DS X W (.Return none pos) (fun ρ L => .ret .none L) := ps_imp ps_retN fun Dn σ H ⟨B, F, m, ρ, L, s, h⟩ => h .non F m ρ σ H (Same.refl _) s .non
def rDrop (re : RE) : RS := fun ρ L => bindS (re ρ L) ρ fun d L' => .next ρ L'
theorem dS_expr (he : DE X W e ra) (hs : swapsWith e none pos.line X.env = pure false := by rfl) : DS X W (.Expr e pos) (rDrop ra) := by
  refine ps_imp (ps_expr he hs) fun Dn σ H ⟨B, F, m, ρ, L, s, h⟩ => ?_
  exact tE_S B F m ρ L s h fun d L' v F' H' e s' dv q => q F' m σ H' (Same.refl _) s'
def rIf (rc : RE) (a b : RS) : RS := fun ρ L => bindS (rc ρ L) ρ fun d L1 => match d with
  | .bool true => a ρ L1
  | .bool false => b ρ L1
  | _ => .stuck
theorem dS_if (hc : DT X W c rc) (ha : DSs X W body ta) (hb : DSs X W orelse tb) : DS X W (.If c body orelse pos) (rIf rc ta tb) := by
  refine ps_imp (ps_if hc ha hb) fun Dn σ H ⟨B, F, m, ρ, L, s, h⟩ => ?_
  refine tT_S B F m ρ L s h (fun d L' z => by cases d <;> first | rfl | exact absurd rfl (z _)) fun b L' F' H' e s' q => ?_
  cases b with
  | true => exact ⟨B, F', m, ρ, L', s', q⟩
  | false => exact ⟨B, F', m, ρ, L', s', q⟩
/-! ### targets, assignments -/
abbrev RG := D → En → Option En
/-- beside the slots ts nothing is stored -/
def Off (ts : List Nat) (σ σ' : L2.St) : Prop := ∀ vs : List Nat, (∀ i ∈ ts, i ∈ vs) → wipe σ' vs = wipe σ vs
theorem wipe_at (σ : L2.St) (j : Nat) : ∀ vs : List Nat, (wipe σ vs)[j]? = if j ∈ vs ∧ j < σ.length then some none else σ[j]?
  | [] => by rw [if_neg (by simp)]; rfl
  | v :: vs => by
    show ((wipe σ vs).set v none)[j]? = _
    by_cases e : v = j
    · subst e
      by_cases hl : v < σ.length
      · rw [if_pos ⟨List.mem_cons_self .., hl⟩, List.getElem?_set_self (by rw [wipe_length]; exact hl)]
      · rw [if_neg (fun z => hl z.2), List.getElem?_eq_none (by rw [List.length_set, wipe_length]; omega), List.getElem?_eq_none (by omega)]
    · rw [List.getElem?_set_ne e, wipe_at σ j vs]
      by_cases hj : j ∈ vs ∧ j < σ.length
      · rw [if_pos hj, if_pos ⟨List.mem_cons_of_mem _ hj.1, hj.2⟩]
      · rw [if_neg hj, if_neg (fun z => hj ⟨(List.mem_cons.mp z.1).resolve_left (fun q => e q.symm), z.2⟩)]
theorem off_set (σ : L2.St) (i : Nat) (o : Option V) : Off [i] σ (σ.set i o) := fun vs h => by
  have hi : i ∈ vs := h i (List.mem_singleton.mpr rfl)
  apply List.ext_getElem?
  intro j
  rw [wipe_at, wipe_at, List.length_set]
  by_cases hj : j ∈ vs ∧ j < σ.length
  · rw [if_pos hj, if_pos hj]
  · rw [if_neg hj, if_neg hj]
    by_cases e : i = j
    · subst e
      have hl : ¬ i < σ.length := fun z => hj ⟨hi, z⟩
      rw [List.getElem?_eq_none (by rw [List.length_set]; omega), List.getElem?_eq_none (by omega)]
    · rw [List.getElem?_set_ne e]
theorem Off.trans {ts us : List Nat} {σ σ1 σ2 : L2.St} (a : Off ts σ σ1) (b : Off us σ1 σ2) : Off (ts ++ us) σ σ2 := fun vs h =>
  (b vs fun i hi => h i (List.mem_append_right _ hi)).trans (a vs fun i hi => h i (List.mem_append_left _ hi))
def tG (K : PySem.W.Frag) (g : RG) (ts : List Nat) : TG := fun v σ H Q => ∃ B F m ρ L d ρ', Sta K B F m ρ L σ H ∧ Dp K F v d ∧ g d ρ = some ρ' ∧ ∀ σ', Sta K B F m ρ' L σ' H → Off ts σ σ' → Q σ' H
def DG (X : Cx) (tg : Expr) (g : RG) (ts : List Nat) : Prop := PG X tg (tG X.K g ts)
def gN (i : Nat) : RG := fun d ρ => some (ρ.set i (.dat d))
theorem pg_imp {tg : Expr} {t t' : TG} (h : PG X tg t) (f : ∀ v σ H Q, t' v σ H Q → t v σ H Q) : PG X tg t' := ⟨fun pins s σ H v u Q I r q => h.run pins s σ H v u Q I r (f v σ H Q q)⟩
theorem dG_name {i : Nat} {x : Str} (hN : X.N.Nodup) (hi : X.N[i]? = some x) (hx : Loc X.env.scope x) (hf : X.fn x = true ∨ X.env.scope.names.lookup x = some .local := by first | exact .inl rfl | exact .inr rfl | assumption) : DG X (.Name x pos) (gN i) [i] := by
  refine pg_imp (pg_name (i := i) hN hi hx hf) fun v σ H Q ⟨B, F, m, ρ, L, d, ρ', s, dv, hg, q⟩ => ?_
  have e : ρ.set i (.dat d) = ρ' := Option.some.inj hg
  subst e
  exact q _ (s.set i (show SlO X.K F m (.dat d) (some v) from dv)) (off_set σ i _)
abbrev RGs := List D → En → Option En
def tGs (K : PySem.W.Frag) (g : RGs) (ts : List Nat) : TGs := fun vs σ H Q => ∃ B F m ρ L ds ρ', Sta K B F m ρ L σ H ∧ DpAll K F vs ds ∧ g ds ρ = some ρ' ∧ ∀ σ', Sta K B F m ρ' L σ' H → Off ts σ σ' → Q σ' H
def DGs (X : Cx) (tgs : List Expr) (g : RGs) (ts : List Nat) : Prop := PGs X tgs (tGs X.K g ts)
theorem pgs_imp {tg : List Expr} {t t' : TGs} (h : PGs X tg t) (f : ∀ v σ H Q, t' v σ H Q → t v σ H Q) : PGs X tg t' := ⟨fun pins s σ H v u Q I r q => h.run pins s σ H v u Q I r (f v σ H Q q)⟩
def gsNil : RGs := fun ds ρ => match ds with
  | [] => some ρ
  | _ => none
def gsCons (g : RG) (gs : RGs) : RGs := fun ds ρ => match ds with
  | d :: ds => match g d ρ with
    | some ρ1 => gs ds ρ1
    | none => none
  | [] => none
theorem dGs_nil : DGs X [] gsNil [] := by
  refine pgs_imp pgs_nil fun vs σ H Q ⟨B, F, m, ρ, L, ds, ρ', s, dv, hg, q⟩ => ?_
  cases dv with
  | nil =>
    have e : ρ = ρ' := Option.some.inj hg
    subst e
    exact ⟨rfl, q σ s (fun _ _ => rfl)⟩
  | cons _ _ => cases hg
theorem dGs_cons {tg : Expr} {tgs : List Expr} {g : RG} {gs : RGs} {ts us : List Nat} (h1 : DG X tg g ts) (h2 : DGs X tgs gs us) (hs : (assignEach (tg :: tgs) X.env).map (·.2) = assign tg X.env :: (assignEach tgs X.env).map (·.2) := by rfl) : DGs X (tg :: tgs) (gsCons g gs) (ts ++ us) := by
  refine pgs_imp (pgs_cons h1 h2 hs) fun vs σ H Q ⟨B, F, m, ρ, L, ds, ρ', s, dv, hg, q⟩ => ?_
  cases dv with
  | nil => cases hg
  | @cons v vs d ds h1 h2 =>
    have hg : (match g d ρ with | some ρ1 => gs ds ρ1 | none => none) = some ρ' := hg
    cases hr : g d ρ with
    | none => rw [hr] at hg; cases hg
    | some ρ1 =>
      rw [hr] at hg
      exact ⟨v, vs, rfl, B, F, m, ρ, L, d, ρ1, s, h1, hr, fun σ1 s1 o1 => ⟨B, F, m, ρ1, L, ds, ρ', s1, h2, hg, fun σ2 s2 o2 => q σ2 s2 (o1.trans o2)⟩⟩
def gT (n : Nat) (gs : RGs) : RG := fun d ρ => match d with
  | .tuple ds => if ds.length = n then gs ds ρ else none
  | _ => none
theorem dG_tup {tgs : List Expr} {k : Nat} {gs : RGs} {n : Nat} {ts : List Nat} (hc : X.calm = true) (h : DGs X tgs gs ts) (hn : (assignEach tgs X.env).length = n := by rfl) (hst : (assignEach tgs X.env).findIdx? (·.1) = none := by rfl) : DG X (.Tuple tgs k pos) (gT n gs) ts := by
  refine pg_imp (pg_tup hc h hn hst) fun v σ H Q ⟨B, F, m, ρ, L, d, ρ', s, dv, hg, q⟩ => ?_
  cases dv with
  | @tup a xs ds ht ha =>
    have hg : (if ds.length = n then gs ds ρ else none) = some ρ' := hg
    by_cases hl : ds.length = n
    · rw [if_pos hl] at hg
      exact ⟨a, xs, rfl, seqT s.fh ht, by rw [dpa_len ha]; exact hl, B, F, m, ρ, L, ds, ρ', s, ha, hg, q⟩
    · rw [if_neg hl] at hg
      cases hg
  | bl k => cases hg
  | non => cases hg
  | int i => cases hg
  | str i => cases hg
  | lst _ _ => cases hg
def rAsg (re : RE) (g : RG) : RS := fun ρ L => bindS (re ρ L) ρ fun d L' => match g d ρ with
  | some ρ' => .next ρ' L'
  | none => .stuck
theorem asg_post {g : RG} {ts : List Nat} {B : Bs} {F : Hp} {m : List Addr} {ρ : En} {L' : Sto} {d : D} {v : V} (s' : Sta K B F m ρ L' σ H) (dv : Dp K F v d) (q : PostS K mg B W F Dn (match g d ρ with | some ρ' => .next ρ' L' | none => .stuck)) : tG K g ts v σ H Dn.nx := by
  cases hg : g d ρ with
  | none => rw [hg] at q; exact q.elim
  | some ρ' =>
    rw [hg] at q
    exact ⟨B, F, m, ρ, L', d, ρ', s', dv, hg, fun σ' s2 _ => q F m σ' H (Same.refl _) s2⟩
theorem dS_asg {tg : Expr} {g : RG} {ts : List Nat} (he : DE X W e ra) (hg : DG X tg g ts) (hs : swapsWithSole [tg] e pos.line X.env = pure false := by rfl) (hw : swappedStores [tg] e X.env = pure none := by rfl)
    (h1 : (assignEach [tg] X.env).map (·.2) = [assign tg X.env] := by rfl) : DS X W (.Assign [tg] e pos) (rAsg ra g) := by
  refine ps_imp (ps_asg he hg hs hw h1) fun Dn σ H ⟨B, F, m, ρ, L, s, h⟩ => ?_
  exact tE_S B F m ρ L s h fun d L' v F' H' e s' dv q => asg_post s' dv q
/-- name = e -/
def rSet (i : Nat) (re : RE) : RS := fun ρ L => bindS (re ρ L) ρ fun d L' => .next (ρ.set i (.dat d)) L'
theorem set_post {i : Nat} {te : TE} {Dn : Ends} (h : tE K mg W ra σ H (fun v H' => Dn.nx (σ.set i (some v)) H')) : tE K mg W ra σ H (fun v H' => gName i v σ H' Dn.nx) := h
theorem dS_set {i : Nat} {x : Str} {pos' : Pos} (hN : X.N.Nodup) (hi : X.N[i]? = some x) (hx : Loc X.env.scope x) (he : DE X W e ra) (hs : swapsWith e (some (.Name x pos')) pos.line X.env = pure false := by rfl)
    (hf : X.fn x = true ∨ X.env.scope.names.lookup x = some .local := by first | exact .inl rfl | exact .inr rfl | assumption) : DS X W (.Assign [.Name x pos'] e pos) (rSet i ra) := by
  refine ps_imp (ps_set (i := i) hN hi hx he hs hf) fun Dn σ H ⟨B, F, m, ρ, L, s, h⟩ => ?_
  exact tE_S B F m ρ L s h fun d L' v F' H' e s' dv q => q F' m _ H' (Same.refl _) (s'.set i (show SlO X.K F' m (.dat d) (some v) from dv))
/-- the statement as the comprehension's own assignment -/
theorem dS_setC {i : Nat} {x : Str} {pos' : Pos} (h : PS X (.Assign [.Name x pos'] e pos) (tAsg (tE X.K X.mg W ra) (gName i))) : DS X W (.Assign [.Name x pos'] e pos) (rSet i ra) := by
  refine ps_imp h fun Dn σ H ⟨B, F, m, ρ, L, s, h⟩ => ?_
  exact tE_S B F m ρ L s h fun d L' v F' H' e s' dv q => q F' m _ H' (Same.refl _) (s'.set i (show SlO X.K F' m (.dat d) (some v) from dv))
/-- a, b = x, y -/
def rPar (i j : Nat) (ra : RA) : RS := fun ρ L => bindSA (ra ρ L) ρ fun ds L' => match ds with
  | [.dat d, .dat e] => .next ((ρ.set i (.dat d)).set j (.dat e)) L'
  | _ => .stuck
theorem dS_par {i j : Nat} {x y : Str} {a b : Expr} {ra : RA} {px py pt : Pos} {kt k2 pt2} (hc : X.calm = true) (hN : X.N.Nodup) (hi : X.N[i]? = some x) (hj : X.N[j]? = some y) (hij : i ≠ j)
    (hx : X.env.scope.names.lookup x = some .local) (hy : X.env.scope.names.lookup y = some .local) (ha : DA X W [a, b] ra)
    (hw : swappedStores [.Tuple [.Name x px, .Name y py] kt pt] (.Tuple [a, b] k2 pt2) X.env = pure (some [x, y]))
    (hs : swapsWithSole [.Tuple [.Name x px, .Name y py] kt pt] (.Tuple [a, b] k2 pt2) pos.line X.env = pure false := by rfl) :
    DS X W (.Assign [.Tuple [.Name x px, .Name y py] kt pt] (.Tuple [a, b] k2 pt2) pos) (rPar i j ra) := by
  refine ps_imp (ps_par hc hN hi hj hij hx hy ha hw hs) fun Dn σ H ⟨B, F, m, ρ, L, s, h⟩ => ?_
  refine tA_S B F m ρ L s h fun ds L' vs F' H' e s' dv q => ?_
  have st : ∀ {ds : List Sl}, (∀ d e, ds ≠ [.dat d, .dat e]) → (match ds with | [.dat d, .dat e] => Flw.next ((ρ.set i (.dat d)).set j (.dat e)) L' | _ => .stuck) = .stuck := by
    intro ds hd
    split
    · exact absurd rfl (hd _ _)
    · rfl
  cases dv with
  | nil => exact q.elim
  | @cons d1 v1 _ _ h1 t1 =>
    cases t1 with
    | nil => cases d1 <;> exact q.elim
    | @cons d2 v2 _ _ h2 t2 =>
      cases t2 with
      | cons _ _ => cases d1 <;> cases d2 <;> exact q.elim
      | nil =>
        cases d1 with
        | no => exact q.elim
        | own k => exact q.elim
        | dat d =>
          cases d2 with
          | no => exact q.elim
          | own k => exact q.elim
          | dat e2 => exact ⟨v1, v2, rfl, q F' m _ H' (Same.refl _) ((s'.set i (show SlO X.K F' m (.dat d) (some v1) from h1)).set j (show SlO X.K F' m (.dat e2) (some v2) from h2))⟩
/-- name op= e -/
def rAug (i : Nat) (f : D → D → Option D) (re : RE) : RS := fun ρ L => match ρ[i]? with
  | some (.dat x) => bindS (re ρ L) ρ (fun d L' => match f x d with
    | some z => .next (ρ.set i (.dat z)) L'
    | none => .stuck)
  | _ => .stuck
def IpOk (K : PySem.W.Frag) (f : D → D → Option D) (t : TIp) : Prop := ∀ F H x y z v u (Q : VK), f x y = some z → Same F H → Dp K F v x → Dp K F u y → (∀ w F' H', Grow F H F' H' → Dp K F' w z → Q w H') → t v u H Q
theorem dS_aug {i : Nat} {x : Str} {op : Operator} {f : D → D → Option D} {ti : TIp} {pos' : Pos} (hN : X.N.Nodup) (hi : X.N[i]? = some x) (hx : Loc X.env.scope x) (he : DE X W e ra) (ho : PIp X op ti) (hok : IpOk X.K f ti)
    (hf : X.fn x = true ∨ X.env.scope.names.lookup x = some .local := by first | exact .inl rfl | exact .inr rfl | assumption) : DS X W (.AugAssign (.Name x pos') op e pos) (rAug i f ra) := by
  refine ps_imp (ps_aug (i := i) hN hi hx he ho hf) fun Dn σ H ⟨B, F, m, ρ, L, s, h⟩ => ?_
  have h : PostS X.K X.mg B W F Dn (match ρ[i]? with | some (.dat x) => bindS (ra ρ L) ρ (fun d L' => match f x d with | some z => .next (ρ.set i (.dat z)) L' | none => .stuck) | _ => .stuck) := h
  cases hr : ρ[i]? with
  | none => rw [hr] at h; exact h.elim
  | some sl =>
    cases sl with
    | no => rw [hr] at h; exact h.elim
    | own k => rw [hr] at h; exact h.elim
    | dat x0 =>
      rw [hr] at h
      obtain ⟨o, ho2, hs⟩ := paired_get s.sl hr
      cases o with
      | none => exact hs.elim
      | some v0 =>
        refine ⟨v0, ho2, tE_S B F m ρ L s h fun d L' v F' H' e s' dv q => ?_⟩
        cases hz : f x0 d with
        | none => rw [hz] at q; exact q.elim
        | some z =>
          rw [hz] at q
          refine hok F' H' x0 d z v0 v _ hz s'.fh (dp_mono e hs) dv fun w F2 H2 g dw => ?_
          exact q F2 m _ H2 g.ff ((s'.grow g).set i (show SlO X.K F2 m (.dat z) (some w) from dw))
end
end Sh
set_option maxRecDepth 100000
set_option maxHeartbeats 4000000
/-! Sh2: arguments, displays, operators, calls by values, lists of a run's own, loops, comprehensions. -/
namespace Sh
open PySem L2
/-! ### arguments -/
def bindA (a : Res) (k : D → Sto → ResA) : ResA := match a with
  | .stuck => .stuck
  | .ok d L => k d L
  | .exc c d L => .exc c d L
def bindAA (a : ResA) (k : List Sl → Sto → ResA) : ResA := match a with
  | .stuck => .stuck
  | .ok d L => k d L
  | .exc c d L => .exc c d L
def bindEA (a : ResA) (k : List Sl → Sto → Res) : Res := match a with
  | .stuck => .stuck
  | .ok d L => k d L
  | .exc c d L => .exc c d L
def aNil : RA := fun _ L => .ok [] L
def aCons (re : RE) (ra : RA) : RA := fun ρ L => bindA (re ρ L) fun d L1 => bindAA (ra ρ L1) fun ds L2 => .ok (.dat d :: ds) L2
/-- an own list handed on -/
def aOwn (i : Nat) (ra : RA) : RA := fun ρ L => match ρ[i]? with
  | some (.own k) => bindAA (ra ρ L) fun ds L2 => .ok (.own k :: ds) L2
  | _ => .stuck
section
variable {K : PySem.W.Frag} {mg : Str → Option Value} {W : WX} {σ : L2.St} {H : Hp}
theorem tA_bind {ra : RA} {g : List Sl → Sto → ResA} {Q : List V → Hp → Prop} (B : Bs) (F : Hp) (m : List Addr) (ρ : En) (L : Sto) (s : Sta K B F m ρ L σ H) (h : PostA K mg B W F m ρ σ Q (bindAA (ra ρ L) g))
    {R : List V → Hp → Prop} (hR : ∀ d L' v F' H', Same F F' → Sta K B F' m ρ L' σ H' → Paired (SlV K F' m) d v → PostA K mg B W F' m ρ σ Q (g d L') → R v H') : tA K mg W ra σ H R := by
  refine ⟨B, F, m, ρ, L, s, ?_⟩
  cases hr : ra ρ L with
  | stuck =>
    rw [hr] at h
    exact h.elim
  | ok d L' =>
    rw [hr] at h
    exact fun v F' H' e s' dv => hR d L' v F' H' e s' dv (PostA.mono e h)
  | exc c d L' =>
    rw [hr] at h
    exact h
theorem tA_E {ra : RA} {g : List Sl → Sto → Res} {Q : VK} (B : Bs) (F : Hp) (m : List Addr) (ρ : En) (L : Sto) (s : Sta K B F m ρ L σ H) (h : PostE K mg B W F m ρ σ Q (bindEA (ra ρ L) g))
    {R : List V → Hp → Prop} (hR : ∀ d L' v F' H', Same F F' → Sta K B F' m ρ L' σ H' → Paired (SlV K F' m) d v → PostE K mg B W F' m ρ σ Q (g d L') → R v H') : tA K mg W ra σ H R := by
  refine ⟨B, F, m, ρ, L, s, ?_⟩
  cases hr : ra ρ L with
  | stuck =>
    rw [hr] at h
    exact h.elim
  | ok d L' =>
    rw [hr] at h
    exact fun v F' H' e s' dv => hR d L' v F' H' e s' dv (PostE.mono e h)
  | exc c d L' =>
    rw [hr] at h
    exact h
theorem tE_A {ra : RE} {g : D → Sto → ResA} {Q : List V → Hp → Prop} (B : Bs) (F : Hp) (m : List Addr) (ρ : En) (L : Sto) (s : Sta K B F m ρ L σ H) (h : PostA K mg B W F m ρ σ Q (bindA (ra ρ L) g))
    {R : VK} (hR : ∀ d L' v F' H', Same F F' → Sta K B F' m ρ L' σ H' → Dp K F' v d → PostA K mg B W F' m ρ σ Q (g d L') → R v H') : tE K mg W ra σ H R := by
  refine ⟨B, F, m, ρ, L, s, ?_⟩
  cases hr : ra ρ L with
  | stuck =>
    rw [hr] at h
    exact h.elim
  | ok d L' =>
    rw [hr] at h
    exact fun v F' H' e s' dv => hR d L' v F' H' e s' dv (PostA.mono e h)
  | exc c d L' =>
    rw [hr] at h
    exact h
end
section
variable {X : Cx} {W : WX} {e a b : Expr} {es : List Expr} {re ra' rb' : RE} {ra : RA} {pos : Pos}
theorem dA_nil : DA X W [] aNil := pa_imp pa_nil fun σ H Q ⟨B, F, m, ρ, L, s, h⟩ => h [] F H (Same.refl _) s .nil
theorem dA_cons (he : DE X W e re) (hr : DA X W es ra) (hs : starEach (e :: es) X.env = (false, eval e X.env) :: starEach es X.env := by rfl) : DA X W (e :: es) (aCons re ra) := by
  refine pa_imp (pa_cons he hr hs) fun σ H Q ⟨B, F, m, ρ, L, s, h⟩ => ?_
  refine tE_A B F m ρ L s h fun d L' v F' H' e s' dv q => ?_
  refine tA_bind B F' m ρ L' s' q fun ds L2 vs F2 H2 e2 s2 dvs q2 => ?_
  exact q2 (v :: vs) F2 H2 (Same.refl _) s2 (.cons (show SlV X.K F2 m (.dat d) v from dp_mono e2 dv) dvs)
theorem dA_own {i : Nat} {x : Str} {p : Pos} (hr : DA X W es ra) (hN : X.N[i]? = some x := by rfl) (hv : Vis X.env.scope x := by first | exact Or.inl rfl | exact Or.inr (Or.inl rfl) | exact Or.inr (Or.inr rfl)) (hd : (x == ("__debug__" : Str)) = false := by decide)
    (hcd : (x == ("__classdict__" : Str)) = false := by decide) (hs : starEach (.Name x p :: es) X.env = (false, eval (.Name x p) X.env) :: starEach es X.env := by rfl) : DA X W (.Name x p :: es) (aOwn i ra) := by
  refine pa_imp (pa_cons (pe_var (i := i) hN hv hd hcd) hr hs) fun σ H Q ⟨B, F, m, ρ, L, s, h⟩ => ?_
  have h : PostA X.K X.mg B W F m ρ σ Q (match ρ[i]? with | some (.own k) => bindAA (ra ρ L) (fun ds L2 => .ok (.own k :: ds) L2) | _ => .stuck) := h
  cases hr : ρ[i]? with
  | none => rw [hr] at h; exact h.elim
  | some sl =>
    cases sl with
    | no => rw [hr] at h; exact h.elim
    | dat d => rw [hr] at h; exact h.elim
    | own k =>
      rw [hr] at h
      obtain ⟨o, ho, hs⟩ := paired_get s.sl hr
      cases o with
      | none => exact hs.elim
      | some v =>
        refine ⟨v, ho, ?_⟩
        refine tA_bind B F m ρ L s h fun ds L2 vs F2 H2 e2 s2 dvs q2 => ?_
        exact q2 (v :: vs) F2 H2 (Same.refl _) s2 (.cons (show SlV X.K F2 m (.own k) v from hs) dvs)
/-- all of them data -/
def allDat : List Sl → Option (List D)
  | [] => some []
  | .dat d :: r => match allDat r with
    | some ds => some (d :: ds)
    | none => none
  | _ :: _ => none
theorem allDat_ok {K : PySem.W.Frag} {F : Hp} {m : List Addr} : ∀ {sls : List Sl} {vs : List V} {ds : List D}, allDat sls = some ds → Paired (SlV K F m) sls vs → DpAll K F vs ds
  | [], _, _, h, .nil => by
    cases h
    exact .nil
  | .dat d :: r, _, _, h, .cons h1 t => by
    have h : (match allDat r with | some ds => some (d :: ds) | none => none) = some _ := h
    cases hr : allDat r with
    | none => rw [hr] at h; cases h
    | some es =>
      rw [hr] at h
      cases h
      exact .cons h1 (allDat_ok hr t)
  | .no :: _, _, _, h, _ => by cases h
  | .own _ :: _, _, _, h, _ => by cases h
def dats (a : ResA) (k : List D → Sto → Res) : Res := bindEA a fun sls L => match allDat sls with
  | some ds => k ds L
  | none => .stuck
theorem dats_go {K : PySem.W.Frag} {mg : Str → Option Value} {σ : L2.St} {H : Hp} {ra : RA} {k : List D → Sto → Res} {Q : VK} (B : Bs) (F : Hp) (m : List Addr) (ρ : En) (L : Sto) (s : Sta K B F m ρ L σ H) (h : PostE K mg B W F m ρ σ Q (dats (ra ρ L) k))
    {R : List V → Hp → Prop} (hR : ∀ ds L' vs F' H', Same F F' → Sta K B F' m ρ L' σ H' → DpAll K F' vs ds → PostE K mg B W F' m ρ σ Q (k ds L') → R vs H') : tA K mg W ra σ H R := by
  refine tA_E B F m ρ L s h fun sls L' vs F' H' e s' dv q => ?_
  cases hr : allDat sls with
  | none => rw [hr] at q; exact q.elim
  | some ds =>
    rw [hr] at q
    exact hR ds L' vs F' H' e s' (allDat_ok hr dv) q
def rTup (ra : RA) : RE := fun ρ L => dats (ra ρ L) fun ds L' => if ds.length ≤ 1000 then .ok (.tuple ds) L' else .stuck
def rLst (ra : RA) : RE := fun ρ L => dats (ra ρ L) fun ds L' => if ds.length ≤ 1000 then .ok (.list ds) L' else .stuck
theorem le_sz {n : Nat} (h : n ≤ 1000) : n ≤ sizeLine := Nat.le_of_lt (small1000 h)
theorem dE_tup {x1} (h : DA X W es ra) : DE X W (.Tuple es x1 pos) (rTup ra) := by
  refine pe_imp (pe_tup h) fun σ H Q ⟨B, F, m, ρ, L, s, h⟩ => ?_
  refine dats_go B F m ρ L s h fun ds L' vs F' H' e s' dv q => ?_
  by_cases hl : ds.length ≤ 1000
  · rw [if_pos hl] at q
    refine ⟨by rw [dpa_len dv]; exact le_sz hl, fun p hp => ?_⟩
    have g := Grow.alloc (o := .tup vs) s'.fh hp
    exact q (.ref p) _ _ g.ff (s'.grow g) (.tup (SqT.of upd_same) (dpa_mono g.ff dv))
  · rw [if_neg hl] at q
    exact q.elim
theorem dE_lst (h : DA X W es ra) : DE X W (.List es pos) (rLst ra) := by
  refine pe_imp (pe_lst h) fun σ H Q ⟨B, F, m, ρ, L, s, h⟩ => ?_
  refine dats_go B F m ρ L s h fun ds L' vs F' H' e s' dv q => ?_
  by_cases hl : ds.length ≤ 1000
  · rw [if_pos hl] at q
    refine ⟨by rw [dpa_len dv]; exact le_sz hl, fun p hp => ?_⟩
    have g := Grow.alloc (o := .lst vs) s'.fh hp
    exact q (.ref p) _ _ g.ff (s'.grow g) (.lst (SqL.of upd_same) (dpa_mono g.ff dv))
  · rw [if_neg hl] at q
    exact q.elim
/-! ### operators by values -/
def OpOk (K : PySem.W.Frag) (f : D → D → Option D) (r : R2) : Prop := ∀ F H x y z v u (Q : VK), f x y = some z → Same F H → Dp K F v x → Dp K F u y → (∀ w F' H', Grow F H F' H' → Dp K F' w z → Q w H') → r v u H Q
def UnOk (K : PySem.W.Frag) (f : D → Option D) (r : V → Hp → VK → Prop) : Prop := ∀ F H x z v (Q : VK), f x = some z → Same F H → Dp K F v x → (∀ w F' H', Grow F H F' H' → Dp K F' w z → Q w H') → r v H Q
def ClOk (K : PySem.W.Frag) (f : List D → Option D) (r : List V → Hp → VK → Prop) : Prop := ∀ F H xs z vs (Q : VK), f xs = some z → Same F H → DpAll K F vs xs → (∀ w F' H', Grow F H F' H' → Dp K F' w z → Q w H') → r vs H Q
def giveE (o : Option D) (L : Sto) : Res := match o with
  | some z => .ok z L
  | none => .stuck
def rBin (f : D → D → Option D) (ra rb : RE) : RE := fun ρ L => bindE (ra ρ L) fun x L1 => bindE (rb ρ L1) fun y L2 => giveE (f x y) L2
def rUn (f : D → Option D) (ra : RE) : RE := fun ρ L => bindE (ra ρ L) fun x L1 => giveE (f x) L1
def rCl (f : List D → Option D) (ra : RA) : RE := fun ρ L => dats (ra ρ L) fun ds L' => giveE (f ds) L'
theorem give_go {K : PySem.W.Frag} {mg : Str → Option Value} {B : Bs} {F F' H : Hp} {m : List Addr} {ρ : En} {L : Sto} {σ : L2.St} {Q : VK} {z : D} (s : Sta K B F m ρ L σ H) (q : PostE K mg B W F m ρ σ Q (.ok z L)) : ∀ w F' H', Grow F H F' H' → Dp K F' w z → Q w H' :=
  fun w F' H' g d => q w F' H' g.ff (s.grow g) d
theorem bin_go {f : D → D → Option D} {r : R2} (hk : OpOk X.K f r) {ra rb : RE} {σ : L2.St} {H : Hp} {Q : VK} (h : tE X.K X.mg W (rBin f ra rb) σ H Q) : tOp r (tE X.K X.mg W ra) (tE X.K X.mg W rb) σ H Q := by
  obtain ⟨B, F, m, ρ, L, s, h⟩ := h
  refine tE_bind B F m ρ L s h fun x L1 v F1 H1 e1 s1 dv q1 => ?_
  refine tE_bind B F1 m ρ L1 s1 q1 fun y L2 u F2 H2 e2 s2 du q2 => ?_
  cases hz : f x y with
  | none => rw [hz] at q2; exact q2.elim
  | some z =>
    rw [hz] at q2
    exact hk F2 H2 x y z v u Q hz s2.fh (dp_mono e2 dv) du (give_go (F' := F2) s2 q2)
theorem dE_bin {op : Operator} {f : D → D → Option D} {r : R2} (ho : OpR X (binaryOp op) r) (hk : OpOk X.K f r) (ha : DE X W a ra') (hb : DE X W b rb') : DE X W (.BinOp a op b pos) (rBin f ra' rb') :=
  pe_imp (pe_op ho ha hb) fun _ _ _ h => bin_go hk h
theorem dE_cmp {op : CmpOp} {f : D → D → Option D} {r : R2} (ho : OpR X (compareOp op) r) (hk : OpOk X.K f r) (ha : DE X W a ra') (hb : DE X W b rb') (hm : behindInMarks op b = false) : DE X W (.Compare a [op] [b] pos) (rBin f ra' rb') :=
  pe_imp (pe_cmpR ho ha hb hm) fun _ _ _ h => bin_go hk h
theorem dE_ix {f : D → D → Option D} {r : R2} (ho : IxR X r) (hk : OpOk X.K f r) (ha : DE X W a ra') (hb : DE X W b rb') (hs : PlainIx b) : DE X W (.Subscript a b pos) (rBin f ra' rb') :=
  pe_imp (pe_ix ho ha hb hs) fun _ _ _ h => bin_go hk h
theorem dE_un {op : UnaryOp} {f : D → Option D} {r : V → Hp → VK → Prop} (ho : UnR X (unaryOp op) r) (hk : UnOk X.K f r) (ha : DE X W a ra') : DE X W (.UnaryOp op a pos) (rUn f ra') := by
  refine pe_imp (pe_un ho ha) fun σ H Q ⟨B, F, m, ρ, L, s, h⟩ => ?_
  refine tE_bind B F m ρ L s h fun x L1 v F1 H1 e1 s1 dv q1 => ?_
  cases hz : f x with
  | none => rw [hz] at q1; exact q1.elim
  | some z =>
    rw [hz] at q1
    exact hk F1 H1 x z v Q hz s1.fh dv (give_go (F' := F1) s1 q1)
theorem cl_go {f : List D → Option D} {r : List V → Hp → VK → Prop} (hk : ClOk X.K f r) {ra : RA} {σ : L2.St} {H : Hp} {Q : VK} (h : tE X.K X.mg W (rCl f ra) σ H Q) : tCB r (tA X.K X.mg W ra) σ H Q := by
  obtain ⟨B, F, m, ρ, L, s, h⟩ := h
  refine dats_go B F m ρ L s h fun ds L' vs F' H' e s' dv q => ?_
  cases hz : f ds with
  | none => rw [hz] at q; exact q.elim
  | some z =>
    rw [hz] at q
    exact hk F' H' ds z vs Q hz s'.fh dv (give_go (F' := F') s' q)
theorem dE_clB {x : Str} {id : String} {f : List D → Option D} {r : List V → Hp → VK → Prop} {p : Pos} (hc : CallR X (.builtin id) r) (hk : ClOk X.K f r) (hg : Gl X x) (hm : X.mg x = none) (hv : bootBuiltins x = some (.builtin id)) (ha : DA X W (e :: es) ra) (hn : x ≠ "__name__" := by decide) (hdb : (x == ("__debug__" : Str)) = false := by decide)
    (he : starEach (e :: es) X.env = (false, eval e X.env) :: starEach es X.env := by rfl) (hpl : (backTo pos (starEach es X.env)).any (·.1) = false := by rfl) : DE X W (.Call (.Name x p) (e :: es) [] pos) (rCl f ra) :=
  pe_imp (pe_callB hc hg hm hv ha hn hdb he hpl) fun _ _ _ h => cl_go hk h
theorem dE_clT {x : Str} {T : String} {f : List D → Option D} {r : List V → Hp → VK → Prop} {p : Pos} (hc : CallR X (.type T) r) (hk : ClOk X.K f r) (hg : Gl X x) (hm : X.mg x = none) (hv : bootBuiltins x = some (.type T)) (ha : DA X W (e :: es) ra) (hn : x ≠ "__name__" := by decide) (hdb : (x == ("__debug__" : Str)) = false := by decide)
    (he : starEach (e :: es) X.env = (false, eval e X.env) :: starEach es X.env := by rfl) (hpl : (backTo pos (starEach es X.env)).any (·.1) = false := by rfl) : DE X W (.Call (.Name x p) (e :: es) [] pos) (rCl f ra) :=
  pe_imp (pe_callTy hc hg hm hv ha hn hdb he hpl) fun _ _ _ h => cl_go hk h
end
end Sh
set_option maxRecDepth 100000
set_option maxHeartbeats 4000000
/-! Sh3: a run's own lists, looks at them, loops, comprehensions, calls of the text's defs. -/
namespace Sh
open PySem L2
/-! ### own lists -/
def rOwn (i : Nat) (ra : RA) : RS := fun ρ L => bindSA (ra ρ L) ρ fun sls L' => match allDat sls with
  | some ds => if ds.length ≤ 1000 then .next (ρ.set i (.own L'.length)) (L' ++ [some ds]) else .stuck
  | none => .stuck
def rApp (i : Nat) (re : RE) : RS := fun ρ L => match ρ[i]? with
  | some (.own k) => (match L[k]? with
    | some (some _) => bindS (re ρ L) ρ (fun d L1 => match L1[k]? with
      | some (some ds) => if ds.length ≤ 1000000 then .next ρ (L1.set k (some (ds ++ [d]))) else .stuck
      | _ => .stuck)
    | _ => .stuck)
  | _ => .stuck
def rSetIt (i : Nat) (rj re : RE) : RS := fun ρ L => bindS (re ρ L) ρ fun d L1 => match ρ[i]? with
  | some (.own k) => bindS (rj ρ L1) ρ (fun n L2 => match n with
    | .int z => (match L2[k]? with
      | some (some ds) => (match ixN ds.length z with
        | some j => .next ρ (L2.set k (some (ds.set j d)))
        | none => .stuck)
      | _ => .stuck)
    | _ => .stuck)
  | _ => .stuck
def frz (i : Nat) (ρ : En) (L : Sto) : Option (En × Sto) := match ρ[i]? with
  | some (.own k) => (match L[k]? with
    | some (some ds) => some (ρ.set i (.dat (.list ds)), L.set k none)
    | _ => none)
  | _ => some (ρ, L)
def rFrz (i : Nat) (r : RS) : RS := fun ρ L => match frz i ρ L with
  | some (ρ', L') => r ρ' L'
  | none => .stuck
def thaw (L : Sto) : Sl → Sl
  | .own k => match L[k]? with
    | some (some ds) => .dat (.list ds)
    | _ => .no
  | s => s
def scalar : D → Bool
  | .none => true
  | .bool _ => true
  | .int _ => true
  | .str _ => true
  | _ => false
/-- a look: all own lists as they stand; the answer is no list, no tuple -/
def rLook (r : RE) : RE := fun ρ L => match r (ρ.map (thaw L)) [] with
  | .ok d _ => if scalar d then .ok d L else .stuck
  | _ => .stuck
section
variable {X : Cx} {W : WX} {e a b : Expr} {es : List Expr} {re ra' rb' rj : RE} {ra : RA} {r : RS} {pos : Pos} {st : Stmt} {sts : List Stmt}
theorem own_at {K : PySem.W.Frag} {B : Bs} {F : Hp} {m : List Addr} {ρ : En} {L : Sto} {σ : L2.St} {H : Hp} (s : Sta K B F m ρ L σ H) {i k : Nat} (hr : ρ[i]? = some (.own k)) : ∃ a, m[k]? = some a ∧ σ[i]? = some (some (.ref a)) := by
  obtain ⟨o, ho, hs⟩ := paired_get s.sl hr
  cases o with
  | none => exact hs.elim
  | some v =>
    obtain ⟨a, ha, e⟩ := hs
    subst e
    exact ⟨a, ha, ho⟩
theorem dS_own {i : Nat} {x : Str} {pos' : Pos} {pl : Pos} (hN : X.N.Nodup) (hi : X.N[i]? = some x) (hx : Loc X.env.scope x) (he : DA X W es ra) (hs : swapsWith (.List es pl) (some (.Name x pos')) pos.line X.env = pure false := by rfl)
    (hf : X.fn x = true ∨ X.env.scope.names.lookup x = some .local := by first | exact .inl rfl | exact .inr rfl | assumption) : DS X W (.Assign [.Name x pos'] (.List es pl) pos) (rOwn i ra) := by
  refine ps_imp (ps_set (i := i) hN hi hx (pe_lst he) hs hf) fun Dn σ H ⟨B, F, m, ρ, L, s, h⟩ => ?_
  refine tA_S B F m ρ L s h fun sls L' vs F' H' e s' dv q => ?_
  cases hr : allDat sls with
  | none => rw [hr] at q; exact q.elim
  | some ds =>
    rw [hr] at q
    have q : PostS X.K X.mg B W F' Dn (if ds.length ≤ 1000 then .next (ρ.set i (.own L'.length)) (L' ++ [some ds]) else .stuck) := q
    have dd := allDat_ok hr dv
    by_cases hl : ds.length ≤ 1000
    · rw [if_pos hl] at q
      refine ⟨by rw [dpa_len dd]; exact le_sz hl, fun p hp => ?_⟩
      have s2 := s'.push hp dd
      refine q F' _ _ _ (Same.refl _) (s2.set i (show SlO X.K F' (m ++ [p]) (.own L'.length) (some (.ref p)) from ⟨p, ?_, rfl⟩))
      rw [← s'.ml, List.getElem?_append_right (Nat.le_refl _), Nat.sub_self]
      rfl
    · rw [if_neg hl] at q
      exact q.elim
theorem dS_app {i : Nat} {x : Str} {p ap cp : Pos} (he : DE X W e re) (hN : X.N[i]? = some x := by rfl) (hv : Vis X.env.scope x := by first | exact Or.inl rfl | exact Or.inr (Or.inl rfl) | exact Or.inr (Or.inr rfl))
    (hd : (x == ("__debug__" : Str)) = false := by decide) (hcd : (x == ("__classdict__" : Str)) = false := by decide)
    (hbase : attributeBase (.Name x p) "append" X.env (eval (.Name x p) X.env) = eval (.Name x p) X.env := by rfl)
    (hfew : ((backTo cp (starEach (e :: []) X.env)).all (fun x => !x.1) && (backToKw cp (keywordEach [] X.env)).all (fun x => x.1.isSome)
      && decide ((e :: []).length + ([] : List Keyword).length + (if ([] : List Keyword).isEmpty then 0 else 1) < 30)) = true := by rfl)
    (hline : (ap.endLine == cp.line) = true := by rfl) (hs : starEach (e :: []) X.env = (false, eval e X.env) :: starEach [] X.env := by rfl) (hplain : (backTo cp (starEach [] X.env)).any (·.1) = false := by rfl)
    (hs1 : swapsWith (.Call (.Attribute (.Name x p) "append" ap) (e :: []) [] cp) none pos.line X.env = pure false := by rfl) :
    DS X W (.Expr (.Call (.Attribute (.Name x p) "append" ap) [e] [] cp) pos) (rApp i re) := by
  refine ps_imp (ps_expr (pe_bm PySem.F.plainAttrs_list PySem.F.slot_list_append PySem.F.type_list_append mt_append (pe_var (i := i) hN hv hd hcd) (pa_cons he pa_nil hs) hbase hfew hline hs hplain) hs1) fun Dn σ H ⟨B, F, m, ρ, L, s, h⟩ => ?_
  have h : PostS X.K X.mg B W F Dn (match ρ[i]? with
    | some (.own k) => (match L[k]? with
      | some (some _) => bindS (re ρ L) ρ (fun d L1 => match L1[k]? with
        | some (some ds) => if ds.length ≤ 1000000 then .next ρ (L1.set k (some (ds ++ [d]))) else .stuck
        | _ => .stuck)
      | _ => .stuck)
    | _ => .stuck) := h
  cases hr : ρ[i]? with
  | none => rw [hr] at h; exact h.elim
  | some sl =>
    cases sl with
    | no => rw [hr] at h; exact h.elim
    | dat d => rw [hr] at h; exact h.elim
    | own k =>
      rw [hr] at h
      obtain ⟨a, ha, ho⟩ := own_at s hr
      refine ⟨.ref a, ho, ?_⟩
      cases hk : L[k]? with
      | none => simp only [hk] at h; exact h.elim
      | some o =>
        cases o with
        | none => simp only [hk] at h; exact h.elim
        | some ds0 =>
          simp only [hk] at h
          obtain ⟨_, vs0, hv0, _⟩ := s.ow k a ds0 ha hk
          refine ⟨Or.inl ⟨rfl, vs0, SqL.of hv0⟩, ?_⟩
          refine tE_S B F m ρ L s h fun d L1 v F1 H1 e1 s1 dv q => ?_
          cases hk1 : L1[k]? with
          | none => simp only [hk1] at q; exact q.elim
          | some o =>
            cases o with
            | none => simp only [hk1] at q; exact q.elim
            | some ds =>
              simp only [hk1] at q
              obtain ⟨_, vs, hv1, hd1⟩ := s1.ow k a ds ha hk1
              by_cases hl : ds.length ≤ 1000000
              · rw [if_pos hl] at q
                refine ⟨a, vs, v, rfl, rfl, hv1, ?_, ?_⟩
                · rw [dpa_len hd1, sizeLine_eq]
                  omega
                · exact q F1 m σ _ (Same.refl _) (s1.write ha hk1 hv1 (dpa_app hd1 (.cons dv .nil)))
              · rw [if_neg hl] at q
                exact q.elim
theorem dS_setIt {i : Nat} {x : Str} {p sp : Pos} {j : Expr} (he : DE X W e re) (hj : DE X W j rj) (hN : X.N[i]? = some x := by rfl) (hv : Vis X.env.scope x := by first | exact Or.inl rfl | exact Or.inr (Or.inl rfl) | exact Or.inr (Or.inr rfl))
    (hd : (x == ("__debug__" : Str)) = false := by decide) (hcd : (x == ("__classdict__" : Str)) = false := by decide)
    (ha : ∀ v, assign (.Subscript (.Name x p) j sp) X.env v = (do
      let ov ← holding [v] (eval (.Name x p) X.env)
      let iv ← holding [v, ov] (eval j X.env)
      standAt sp
      holding [v, ov, iv] (setItem ov iv v)
      release [v, ov, iv] []) := by intro _; rfl)
    (hs : swapsWithSole [.Subscript (.Name x p) j sp] e pos.line X.env = pure false := by rfl) (hw : swappedStores [.Subscript (.Name x p) j sp] e X.env = pure none := by rfl)
    (h1 : (assignEach [.Subscript (.Name x p) j sp] X.env).map (·.2) = [assign (.Subscript (.Name x p) j sp) X.env] := by rfl) :
    DS X W (.Assign [.Subscript (.Name x p) j sp] e pos) (rSetIt i rj re) := by
  refine ps_imp (ps_asg he (pg_sub (pe_var (i := i) hN hv hd hcd) hj set_list ha) hs hw h1) fun Dn σ H ⟨B, F, m, ρ, L, s, h⟩ => ?_
  refine tE_S B F m ρ L s h fun d L1 v F1 H1 e1 s1 dv q => ?_
  have q : PostS X.K X.mg B W F1 Dn (match ρ[i]? with
    | some (.own k) => bindS (rj ρ L1) ρ (fun n L2 => match n with
      | .int z => (match L2[k]? with
        | some (some ds) => (match ixN ds.length z with
          | some j => .next ρ (L2.set k (some (ds.set j d)))
          | none => .stuck)
        | _ => .stuck)
      | _ => .stuck)
    | _ => .stuck) := q
  cases hr : ρ[i]? with
  | none => rw [hr] at q; exact q.elim
  | some sl =>
    cases sl with
    | no => rw [hr] at q; exact q.elim
    | dat d => rw [hr] at q; exact q.elim
    | own k =>
      rw [hr] at q
      obtain ⟨a, ha, ho⟩ := own_at s1 hr
      refine ⟨.ref a, ho, ?_⟩
      refine tE_S B F1 m ρ L1 s1 q fun n L2 u F2 H2 e2 s2 du q2 => ?_
      cases du with
      | int z =>
        cases hk : L2[k]? with
        | none => simp only [hk] at q2; exact q2.elim
        | some o =>
          cases o with
          | none => simp only [hk] at q2; exact q2.elim
          | some ds =>
            simp only [hk] at q2
            obtain ⟨_, vs, hv1, hd1⟩ := s2.ow k a ds ha hk
            cases hx : ixN ds.length z with
            | none => simp only [hx] at q2; exact q2.elim
            | some j =>
              simp only [hx] at q2
              refine ⟨a, vs, z, j, rfl, rfl, hv1, by rw [dpa_len hd1]; exact hx, ?_⟩
              exact q2 F2 m σ _ (Same.refl _) (s2.write ha hk hv1 (dpa_set (dp_mono e2 dv) j hd1))
      | bl _ => exact q2.elim
      | non => exact q2.elim
      | str _ => exact q2.elim
      | lst _ _ => exact q2.elim
      | tup _ _ => exact q2.elim
theorem frz_ok {K : PySem.W.Frag} {B : Bs} {F : Hp} {m : List Addr} {ρ ρ' : En} {L L' : Sto} {σ : L2.St} {H : Hp} {i : Nat} (s : Sta K B F m ρ L σ H) (h : frz i ρ L = some (ρ', L')) : ∃ F', Same F F' ∧ Sta K B F' m ρ' L' σ H := by
  unfold frz at h
  cases hr : ρ[i]? with
  | none =>
    simp only [hr] at h
    cases h
    exact ⟨F, Same.refl _, s⟩
  | some sl =>
    simp only [hr] at h
    cases sl with
    | no =>
      cases h
      exact ⟨F, Same.refl _, s⟩
    | dat d =>
      cases h
      exact ⟨F, Same.refl _, s⟩
    | own k =>
      obtain ⟨a, ha, ho⟩ := own_at s hr
      cases hk : L[k]? with
      | none => simp only [hk] at h; cases h
      | some o =>
        cases o with
        | none => simp only [hk] at h; cases h
        | some ds =>
          simp only [hk] at h
          cases h
          obtain ⟨_, vs, hv, hd⟩ := s.ow k a ds ha hk
          obtain ⟨e, s2⟩ := s.freeze ha hk hv hd
          refine ⟨_, e, ?_⟩
          have s3 := s2.set i (x := .dat (.list ds)) (o := some (.ref a)) (.lst (SqL.of upd_same) (dpa_mono e hd))
          have es : σ.set i (some (.ref a)) = σ := by
            apply List.ext_getElem?
            intro j
            by_cases hj : i = j
            · subst hj
              obtain ⟨hlt, _⟩ := List.getElem?_eq_some_iff.mp ho
              rw [List.getElem?_set_self hlt, ho]
            · rw [List.getElem?_set_ne hj]
          rw [es] at s3
          exact s3
theorem dS_frz (i : Nat) (h : DS X W st r) : DS X W st (rFrz i r) := by
  refine ps_imp h fun Dn σ H ⟨B, F, m, ρ, L, s, q⟩ => ?_
  have q : PostS X.K X.mg B W F Dn (match frz i ρ L with | some (ρ', L') => r ρ' L' | none => .stuck) := q
  cases hz : frz i ρ L with
  | none => rw [hz] at q; exact q.elim
  | some p =>
    rw [hz] at q
    obtain ⟨F', e, s'⟩ := frz_ok s hz
    exact ⟨B, F', m, p.1, p.2, s', PostS.mono e q⟩
theorem dSs_frz (i : Nat) (h : DSs X W sts r) : DSs X W sts (rFrz i r) := by
  refine pss_imp h fun Dn σ H ⟨B, F, m, ρ, L, s, q⟩ => ?_
  have q : PostS X.K X.mg B W F Dn (match frz i ρ L with | some (ρ', L') => r ρ' L' | none => .stuck) := q
  cases hz : frz i ρ L with
  | none => rw [hz] at q; exact q.elim
  | some p =>
    rw [hz] at q
    obtain ⟨F', e, s'⟩ := frz_ok s hz
    exact ⟨B, F', m, p.1, p.2, s', PostS.mono e q⟩
/-! ### looks -/
theorem thaw_sl {K : PySem.W.Frag} {B : Bs} {F : Hp} {m : List Addr} {ρ : En} {L : Sto} {σ : L2.St} {H : Hp} (s : Sta K B F m ρ L σ H) : Paired (SlO K H []) (ρ.map (thaw L)) σ := by
  have key : ∀ {l : En} {k : L2.St}, Paired (SlO K F m) l k → Paired (SlO K H []) (l.map (thaw L)) k := by
    intro l k h
    induction h with
    | nil => exact .nil
    | @cons sl o l' k' h1 t ih =>
      refine .cons ?_ ih
      cases sl with
      | no => trivial
      | dat d =>
        cases o with
        | none => exact h1.elim
        | some v => exact dp_mono s.fh h1
      | own n =>
        cases o with
        | none => exact h1.elim
        | some v =>
          obtain ⟨a, ha, e⟩ := h1
          subst e
          show SlO K H [] (match L[n]? with | some (some ds) => .dat (.list ds) | _ => .no) (some (.ref a))
          cases hk : L[n]? with
          | none => trivial
          | some q =>
            cases q with
            | none => trivial
            | some ds =>
              obtain ⟨_, vs, hv, hd⟩ := s.ow n a ds ha hk
              exact .lst (SqL.of hv) (dpa_mono s.fh hd)
  exact key s.sl
theorem thaw_sta {K : PySem.W.Frag} {B : Bs} {F : Hp} {m : List Addr} {ρ : En} {L : Sto} {σ : L2.St} {H : Hp} (s : Sta K B F m ρ L σ H) : Sta K ⟨H, [], H⟩ H [] (ρ.map (thaw L)) [] σ H where
  fh := Same.refl _
  ml := rfl
  nd := List.nodup_nil
  al := fun _ h => by cases h
  ow := fun k a ds h => by simp at h
  sl := thaw_sl s
  bf := Same.refl _
  bn := fun p h g => absurd h g
  bh := fun _ _ h _ => h
  bm := List.prefix_refl _
  bw := fun _ h => by cases h
theorem look_back {K : PySem.W.Frag} {B : Bs} {F F' : Hp} {m m' : List Addr} {ρ ρ' : En} {L L' : Sto} {σ : L2.St} {H H' : Hp} (s : Sta K B F m ρ L σ H) (t : Sta K ⟨H, [], H⟩ F' m' ρ' L' σ H') : Sta K B F m ρ L σ H' :=
  s.grow (Grow.real s.fh fun a o h => t.bh a o h (by simp))
theorem scal_dp {K : PySem.W.Frag} {F F' : Hp} {v : V} {d : D} (hs : scalar d = true) (h : Dp K F v d) : Dp K F' v d := by
  cases h with
  | non => exact .non
  | bl b => exact .bl b
  | int i => exact .int i
  | str x => exact .str x
  | lst _ _ => cases hs
  | tup _ _ => cases hs
theorem dE_look (h : DE X W e re) : DE X W e (rLook re) := by
  refine pe_imp h fun σ H Q ⟨B, F, m, ρ, L, s, q⟩ => ?_
  have q : PostE X.K X.mg B W F m ρ σ Q (match re (ρ.map (thaw L)) [] with | .ok d _ => if scalar d then .ok d L else .stuck | _ => .stuck) := q
  refine ⟨⟨H, [], H⟩, H, [], ρ.map (thaw L), [], thaw_sta s, ?_⟩
  cases hr : re (ρ.map (thaw L)) [] with
  | stuck => rw [hr] at q; exact q.elim
  | exc c d L' => rw [hr] at q; exact q.elim
  | ok d L' =>
    rw [hr] at q
    have q : PostE X.K X.mg B W F m ρ σ Q (if scalar d then .ok d L else .stuck) := q
    by_cases hs : scalar d = true
    · rw [if_pos hs] at q
      exact fun v F' H' e s' dv => q v F H' (Same.refl _) (look_back s s') (scal_dp hs dv)
    · rw [if_neg hs] at q
      exact q.elim
theorem dT_look (h : DT X W e re) : DT X W e (rLook re) := by
  refine pt_imp h fun σ H Q ⟨B, F, m, ρ, L, s, q⟩ => ?_
  have q : PostT X.K X.mg B W F m ρ σ Q (match re (ρ.map (thaw L)) [] with | .ok d _ => if scalar d then .ok d L else .stuck | _ => .stuck) := q
  refine ⟨⟨H, [], H⟩, H, [], ρ.map (thaw L), [], thaw_sta s, ?_⟩
  cases hr : re (ρ.map (thaw L)) [] with
  | stuck => rw [hr] at q; exact q.elim
  | exc c d L' => rw [hr] at q; exact q.elim
  | ok d L' =>
    rw [hr] at q
    have q : PostT X.K X.mg B W F m ρ σ Q (if scalar d then .ok d L else .stuck) := q
    by_cases hs : scalar d = true
    · rw [if_pos hs] at q
      cases d with
      | bool b => exact fun F' H' e s' => q F H' (Same.refl _) (look_back s s')
      | none => exact q.elim
      | int i => exact q.elim
      | str i => exact q.elim
      | list i => exact q.elim
      | tuple i => exact q.elim
      | dict i => exact q.elim
    · rw [if_neg hs] at q
      exact q.elim
end

/-! ### what a loop walks -/
def bindI (a : Res) (k : D → Sto → ResI) : ResI := match a with
  | .stuck => .stuck
  | .ok d L => k d L
  | .exc c d L => .exc c d L
structure ItOk (K : PySem.W.Frag) (J : It) (F : Hp) (ds : List D) : Prop where
  go : ∀ (i : Nat) (d : D) (H : Hp), Same F H → ds[i]? = some d → J.go i H ∧ ∀ x H', J.yld i H x H' → H' = H ∧ Dp K F x d
  stop : ∀ H : Hp, Same F H → J.stop ds.length H
def PostI (K : PySem.W.Frag) (mg : Str → Option Value) (B : Bs) (W : WX) (F : Hp) (m : List Addr) (ρ : En) (σ : L2.St) (R : It → Hp → Prop) : ResI → Prop
  | .stuck => False
  | .ok ds L' => ∀ J F' H', Same F F' → Sta K B F' m ρ L' σ H' → ItOk K J F' ds → R J H'
  | .exc c d L' => ∀ cls dd F' H', Same F F' → Sta K B F' m ρ L' σ H' → XR K mg F' H' c d cls dd → W cls dd σ H'
def tI (K : PySem.W.Frag) (mg : Str → Option Value) (W : WX) (r : RI) : TI := fun σ H R => ∃ B F m ρ L, Sta K B F m ρ L σ H ∧ PostI K mg B W F m ρ σ R (r ρ L)
def DI (X : Cx) (W : WX) (tg e : Expr) (r : RI) : Prop := PI X tg e (tI X.K X.mg W r)
theorem pi_imp {X : Cx} {tg e : Expr} {t t' : TI} (h : PI X tg e t) (f : ∀ σ H R, t' σ H R → t σ H R) : PI X tg e t' := ⟨fun pins s σ H R I q => h.run pins s σ H R I (f σ H R q)⟩
theorem PostI.mono {K : PySem.W.Frag} {mg : Str → Option Value} {B : Bs} {W : WX} {F F' : Hp} {m : List Addr} {ρ : En} {σ : L2.St} {R : It → Hp → Prop} (e : Same F F') : ∀ {r : ResI}, PostI K mg B W F m ρ σ R r → PostI K mg B W F' m ρ σ R r
  | .stuck, h => h
  | .ok _ _, h => fun J F' H' z => h J F' H' (e.trans z)
  | .exc _ _ _, h => fun cls dd F' H' z => h cls dd F' H' (e.trans z)
def iLst (re : RE) : RI := fun ρ L => bindI (re ρ L) fun d L' => match d with
  | .list ds => .ok ds L'
  | _ => .stuck
def iTpl (re : RE) : RI := fun ρ L => bindI (re ρ L) fun d L' => match d with
  | .tuple ds => .ok ds L'
  | _ => .stuck
def signs (x : Str) : List D := x.cps.toList.map fun c => .str ⟨#[c]⟩
def iTxt (re : RE) : RI := fun ρ L => bindI (re ρ L) fun d L' => match d with
  | .str x => .ok (signs x) L'
  | _ => .stuck
def rangeD (lo : Int) (n : Nat) : List D := (List.range n).map fun i : Nat => PyData.int (lo + (i : Int))
def bindIA (a : ResA) (k : List Sl → Sto → ResI) : ResI := match a with
  | .stuck => .stuck
  | .ok d L => k d L
  | .exc c d L => .exc c d L
def smallI (i : Int) : Bool := decide (-(2 ^ 62) ≤ i) && decide (i < 2 ^ 62)
def iRg1 (ra : RA) : RI := fun ρ L => bindIA (ra ρ L) fun sls L' => match sls with
  | [.dat (.int j)] => if smallI j then .ok (rangeD 0 j.toNat) L' else .stuck
  | _ => .stuck
def rg2k (sls : List Sl) (L' : Sto) : ResI := match sls with
  | [.dat (.int i), .dat (.int j)] => if smallI i && smallI j then .ok (rangeD i (j - i).toNat) L' else .stuck
  | _ => .stuck
theorem rg2k_no {L' : Sto} : ∀ {sls : List Sl}, (∀ i j, sls ≠ [.dat (.int i), .dat (.int j)]) → rg2k sls L' = .stuck := by
  intro sls hn
  unfold rg2k
  split
  · exact absurd rfl (hn _ _)
  · rfl
def iRg2 (ra : RA) : RI := fun ρ L => bindIA (ra ρ L) rg2k
theorem smallI_ok {i : Int} (h : smallI i = true) : -(2 ^ 62) ≤ i ∧ i < 2 ^ 62 := by
  unfold smallI at h
  rw [Bool.and_eq_true] at h
  exact ⟨of_decide_eq_true h.1, of_decide_eq_true h.2⟩
section
variable {X : Cx} {W : WX} {tg e : Expr} {re : RE} {ra : RA} {pos : Pos}
theorem tE_I {K : PySem.W.Frag} {mg : Str → Option Value} {σ : L2.St} {H : Hp} {re : RE} {g : D → Sto → ResI} {Q : It → Hp → Prop} (B : Bs) (F : Hp) (m : List Addr) (ρ : En) (L : Sto) (s : Sta K B F m ρ L σ H) (h : PostI K mg B W F m ρ σ Q (bindI (re ρ L) g))
    {R : VK} (hR : ∀ d L' v F' H', Same F F' → Sta K B F' m ρ L' σ H' → Dp K F' v d → PostI K mg B W F' m ρ σ Q (g d L') → R v H') : tE K mg W re σ H R := by
  refine ⟨B, F, m, ρ, L, s, ?_⟩
  cases hr : re ρ L with
  | stuck =>
    rw [hr] at h
    exact h.elim
  | ok d L' =>
    rw [hr] at h
    exact fun v F' H' e s' dv => hR d L' v F' H' e s' dv (PostI.mono e h)
  | exc c d L' =>
    rw [hr] at h
    exact h
theorem tA_I {K : PySem.W.Frag} {mg : Str → Option Value} {σ : L2.St} {H : Hp} {ra : RA} {g : List Sl → Sto → ResI} {Q : It → Hp → Prop} (B : Bs) (F : Hp) (m : List Addr) (ρ : En) (L : Sto) (s : Sta K B F m ρ L σ H) (h : PostI K mg B W F m ρ σ Q (bindIA (ra ρ L) g))
    {R : List V → Hp → Prop} (hR : ∀ d L' v F' H', Same F F' → Sta K B F' m ρ L' σ H' → Paired (SlV K F' m) d v → PostI K mg B W F' m ρ σ Q (g d L') → R v H') : tA K mg W ra σ H R := by
  refine ⟨B, F, m, ρ, L, s, ?_⟩
  cases hr : ra ρ L with
  | stuck =>
    rw [hr] at h
    exact h.elim
  | ok d L' =>
    rw [hr] at h
    exact fun v F' H' e s' dv => hR d L' v F' H' e s' dv (PostI.mono e h)
  | exc c d L' =>
    rw [hr] at h
    exact h
theorem it_list {K : PySem.W.Frag} {F : Hp} {a : Addr} {xs : List V} {ds : List D} (h : SqL K F a xs) (hd : DpAll K F xs ds) : ItOk K (Itl K a) F ds where
  go := fun i d H e hi => by
    obtain ⟨v, hv, dv⟩ := dpa_get' hd hi
    refine ⟨⟨xs, v, e.seq h, hv⟩, fun x H' y => ?_⟩
    obtain ⟨e1, y⟩ := y
    have ex : some v = some x := hv.symm.trans (y xs (e.seq h))
    cases ex
    exact ⟨e1, dv⟩
  stop := fun H e => ⟨xs, e.seq h, by rw [dpa_len hd]; exact Nat.le_refl _⟩
theorem it_tup {K : PySem.W.Frag} {F : Hp} {a : Addr} {xs : List V} {ds : List D} (h : SqT K F a xs) (hd : DpAll K F xs ds) : ItOk K (Itt K a) F ds where
  go := fun i d H e hi => by
    obtain ⟨v, hv, dv⟩ := dpa_get' hd hi
    refine ⟨⟨xs, v, seqT e h, hv⟩, fun x H' y => ?_⟩
    obtain ⟨e1, y⟩ := y
    have ex : some v = some x := hv.symm.trans (y xs (seqT e h))
    cases ex
    exact ⟨e1, dv⟩
  stop := fun H e => ⟨xs, seqT e h, by rw [dpa_len hd]; exact Nat.le_refl _⟩
theorem it_range {K : PySem.W.Frag} {F : Hp} {lo : Int} {n : Nat} : ItOk K (Itr lo n) F (rangeD lo n) where
  go := fun i d H e hi => by
    unfold rangeD at hi
    rw [List.getElem?_map] at hi
    cases hn : (List.range n)[i]? with
    | none => rw [hn] at hi; cases hi
    | some j =>
      rw [hn] at hi
      obtain ⟨h1, h2⟩ := List.getElem?_eq_some_iff.mp hn
      rw [List.getElem_range] at h2
      subst h2
      have hd : d = .int (lo + (i : Int)) := (Option.some.inj hi).symm
      subst hd
      refine ⟨(show i < n by simpa using h1), fun x H' y => ?_⟩
      obtain ⟨e1, e2⟩ := y
      subst e2
      exact ⟨e1, .int _⟩
  stop := fun H e => by
    show n ≤ (rangeD lo n).length
    unfold rangeD
    rw [List.length_map, List.length_range]
    exact Nat.le_refl _
theorem it_str {K : PySem.W.Frag} {F : Hp} {x : Str} : ItOk K (Its x) F (signs x) where
  go := fun i d H e hi => by
    unfold signs at hi
    rw [List.getElem?_map] at hi
    cases hn : x.cps.toList[i]? with
    | none => rw [hn] at hi; cases hi
    | some c =>
      rw [hn] at hi
      have hd : d = .str ⟨#[c]⟩ := (Option.some.inj hi).symm
      subst hd
      have hlt : i < x.cps.size := by
        have := (List.getElem?_eq_some_iff.mp hn).1
        simpa using this
      refine ⟨hlt, fun v H' y => ?_⟩
      obtain ⟨e1, c', hc, ev⟩ := y
      subst ev
      have ec : some c' = some c := by
        rw [← hc, ← hn]
        simp
      cases ec
      exact ⟨e1, .str _⟩
  stop := fun H e => by
    show x.cps.size ≤ (signs x).length
    unfold signs
    rw [List.length_map]
    simp
theorem dI_list (he : DE X W e re) : DI X W tg e (iLst re) := by
  refine pi_imp (pi_list he) fun σ H R ⟨B, F, m, ρ, L, s, h⟩ => ?_
  refine tE_I B F m ρ L s h fun d L' v F' H' e s' dv q => ?_
  cases dv with
  | @lst a xs ds hs hd => exact ⟨a, rfl, ⟨xs, s'.fh.seq hs⟩, q _ F' H' (Same.refl _) s' (it_list hs hd)⟩
  | bl _ => exact q.elim
  | non => exact q.elim
  | int _ => exact q.elim
  | str _ => exact q.elim
  | tup _ _ => exact q.elim
theorem dI_tup (he : DE X W e re) : DI X W tg e (iTpl re) := by
  refine pi_imp (pi_tup he) fun σ H R ⟨B, F, m, ρ, L, s, h⟩ => ?_
  refine tE_I B F m ρ L s h fun d L' v F' H' e s' dv q => ?_
  cases dv with
  | @tup a xs ds hs hd => exact ⟨a, rfl, ⟨xs, seqT s'.fh hs⟩, q _ F' H' (Same.refl _) s' (it_tup hs hd)⟩
  | bl _ => exact q.elim
  | non => exact q.elim
  | int _ => exact q.elim
  | str _ => exact q.elim
  | lst _ _ => exact q.elim
theorem dI_str (he : DE X W e re) : DI X W tg e (iTxt re) := by
  refine pi_imp (pi_str he) fun σ H R ⟨B, F, m, ρ, L, s, h⟩ => ?_
  refine tE_I B F m ρ L s h fun d L' v F' H' e s' dv q => ?_
  cases dv with
  | str x => exact ⟨x, rfl, q _ F' H' (Same.refl _) s' it_str⟩
  | bl _ => exact q.elim
  | non => exact q.elim
  | int _ => exact q.elim
  | lst _ _ => exact q.elim
  | tup _ _ => exact q.elim
theorem dI_rg1 {a : Expr} {p : Pos} (hg : Gl X "range") (hm : X.mg "range" = none) (ha : DA X W [a] ra) (hs : starEach [a] X.env = [(false, eval a X.env)] := by rfl) : DI X W tg (.Call (.Name "range" p) [a] [] pos) (iRg1 ra) := by
  refine pi_imp (pi_range1 hg hm ha hs) fun σ H R ⟨B, F, m, ρ, L, s, h⟩ => ?_
  refine tA_I B F m ρ L s h fun sls L' vs F' H' e s' dv q => ?_
  cases dv with
  | nil => exact q.elim
  | @cons s1 v1 _ _ h1 t1 =>
    cases t1 with
    | cons _ _ =>
      cases s1 with
      | no => exact q.elim
      | own _ => exact q.elim
      | dat d => cases d <;> exact q.elim
    | nil =>
      cases s1 with
      | no => exact q.elim
      | own _ => exact q.elim
      | dat d =>
        have h1 : Dp X.K F' v1 d := h1
        cases h1 with
        | int j =>
          have q : PostI X.K X.mg B W F' m ρ σ R (if smallI j then .ok (rangeD 0 j.toNat) L' else .stuck) := q
          by_cases hj : smallI j = true
          · rw [if_pos hj] at q
            exact ⟨j, rfl, (smallI_ok hj).1, (smallI_ok hj).2, q _ F' H' (Same.refl _) s' it_range⟩
          · rw [if_neg hj] at q
            exact q.elim
        | bl _ => exact q.elim
        | non => exact q.elim
        | str _ => exact q.elim
        | lst _ _ => exact q.elim
        | tup _ _ => exact q.elim
theorem dI_rg2 {a b : Expr} {p : Pos} (hg : Gl X "range") (hm : X.mg "range" = none) (ha : DA X W [a, b] ra) (hs : starEach [a, b] X.env = [(false, eval a X.env), (false, eval b X.env)] := by rfl) (hs2 : starEach [b] X.env = [(false, eval b X.env)] := by rfl) :
    DI X W tg (.Call (.Name "range" p) [a, b] [] pos) (iRg2 ra) := by
  refine pi_imp (pi_range2 hg hm ha hs hs2) fun σ H R ⟨B, F, m, ρ, L, s, h⟩ => ?_
  refine tA_I B F m ρ L s h fun sls L' vs F' H' e s' dv q => ?_
  by_cases hx : ∃ i j, sls = [.dat (.int i), .dat (.int j)]
  · obtain ⟨i, j, rfl⟩ := hx
    have q : PostI X.K X.mg B W F' m ρ σ R (if smallI i && smallI j then .ok (rangeD i (j - i).toNat) L' else .stuck) := q
    cases dv with
    | @cons _ v1 _ _ h1 t1 =>
      cases t1 with
      | @cons _ v2 _ _ h2 t2 =>
        cases t2
        have h1 : Dp X.K F' v1 (.int i) := h1
        have h2 : Dp X.K F' v2 (.int j) := h2
        cases h1
        cases h2
        by_cases hj : (smallI i && smallI j) = true
        · rw [if_pos hj] at q
          rw [Bool.and_eq_true] at hj
          exact ⟨i, j, rfl, ⟨(smallI_ok hj.1).1, (smallI_ok hj.1).2, (smallI_ok hj.2).1, (smallI_ok hj.2).2⟩, q _ F' H' (Same.refl _) s' it_range⟩
        · rw [if_neg hj] at q
          exact q.elim
  · rw [rg2k_no fun i j z => hx ⟨i, j, z⟩] at q
    exact q.elim
end
/-! ### for -/
def loopD (g : RG) (body : RS) : List D → RS
  | [], ρ, L => .next ρ L
  | d :: ds, ρ, L => match g d ρ with
    | none => .stuck
    | some ρ1 => match body ρ1 L with
      | .next ρ2 L2 => loopD g body ds ρ2 L2
      | .cont ρ2 L2 => loopD g body ds ρ2 L2
      | .brk ρ2 L2 => .next ρ2 L2
      | .ret d L2 => .ret d L2
      | .exc c d ρ2 L2 => .exc c d ρ2 L2
      | .stuck => .stuck
def rFor (ri : RI) (g : RG) (body : RS) : RS := fun ρ L => match ri ρ L with
  | .stuck => .stuck
  | .exc c d L' => .exc c d ρ L'
  | .ok ds L' => loopD g body ds ρ L'
theorem drop_at {α : Type} {l : List α} {i : Nat} {x : α} (h : l[i]? = some x) : l.drop i = x :: l.drop (i + 1) := by
  obtain ⟨h1, h2⟩ := List.getElem?_eq_some_iff.mp h
  rw [List.drop_eq_getElem_cons h1, h2]
section
variable {X : Cx} {W : WX} {tg e c : Expr} {ri : RI} {g : RG} {ts : List Nat} {body : List Stmt} {rb : RS} {rc : RE} {pos : Pos}
theorem dS_for (hp : PassesOwn (model X.prog X.w) X.A X.env X.xe) (hc : X.calm = true) (hi : DI X W tg e ri) (hg : DG X tg g ts) (hb : DSs X W body rb) (hs : ∀ x, foldedSetIterable e X.env x = pure x := by intro _; rfl) : DS X W (.For tg e body [] pos) (rFor ri g rb) := by
  refine ps_imp (ps_for hp hc hi hg hb hs) fun Dn σ H ⟨B, F, m, ρ, L, s, h⟩ => ?_
  have h : PostS X.K X.mg B W F Dn (match ri ρ L with | .stuck => .stuck | .exc c d L' => .exc c d ρ L' | .ok ds L' => loopD g rb ds ρ L') := h
  refine ⟨B, F, m, ρ, L, s, ?_⟩
  cases hr : ri ρ L with
  | stuck => rw [hr] at h; exact h.elim
  | exc c d L' =>
    rw [hr] at h
    exact fun cls dd F' H' e s' x => h cls dd F' m σ H' e s' x
  | ok ds L' =>
    rw [hr] at h
    intro J F1 H1 e1 s1 it
    refine ⟨fun i n σ H => n = ds.length - i ∧ i ≤ ds.length ∧ ∃ F2 m2 ρ2 L2, Same F1 F2 ∧ Sta X.K B F2 m2 ρ2 L2 σ H ∧ PostS X.K X.mg B W F2 Dn (loopD g rb (ds.drop i) ρ2 L2), ⟨ds.length, by simp, Nat.zero_le _, F1, m, ρ, L', Same.refl _, s1, PostS.mono e1 h⟩, ?_⟩
    rintro i n σ2 H2 ⟨rfl, hi, F2, m2, ρ2, L2, e2, s2, q⟩
    by_cases hlt : i < ds.length
    · have hd : ds[i]? = some ds[i] := List.getElem?_eq_getElem hlt
      obtain ⟨hgo, hy⟩ := it.go i _ H2 (e2.trans s2.fh) hd
      refine Or.inr ⟨hgo, fun σ3 H3 => ∃ F3 m3 ρ3 L3, Same F1 F3 ∧ Sta X.K B F3 m3 ρ3 L3 σ3 H3 ∧ PostS X.K X.mg B W F3 Dn (loopD g rb (ds.drop (i + 1)) ρ3 L3), fun σ3 H3 hN => ⟨ds.length - (i + 1), by omega, rfl, hlt, hN⟩, fun x H3 y => ?_⟩
      obtain ⟨eh, dx⟩ := hy x H3 y
      subst eh
      rw [drop_at hd] at q
      have q : PostS X.K X.mg B W F2 Dn (match g ds[i] ρ2 with
        | none => .stuck
        | some ρ1 => match rb ρ1 L2 with
          | .next ρ2 L2 => loopD g rb (ds.drop (i + 1)) ρ2 L2
          | .cont ρ2 L2 => loopD g rb (ds.drop (i + 1)) ρ2 L2
          | .brk ρ2 L2 => .next ρ2 L2
          | .ret d L2 => .ret d L2
          | .exc c d ρ2 L2 => .exc c d ρ2 L2
          | .stuck => .stuck) := q
      cases hz : g ds[i] ρ2 with
      | none => rw [hz] at q; exact q.elim
      | some ρ3 =>
        rw [hz] at q
        refine ⟨B, F2, m2, ρ2, L2, ds[i], ρ3, s2, dp_mono e2 dx, hz, fun σ3 s3 _ => ⟨B, F2, m2, ρ3, L2, s3, ?_⟩⟩
        have q : PostS X.K X.mg B W F2 Dn (match rb ρ3 L2 with
          | .next ρ2 L2 => loopD g rb (ds.drop (i + 1)) ρ2 L2
          | .cont ρ2 L2 => loopD g rb (ds.drop (i + 1)) ρ2 L2
          | .brk ρ2 L2 => .next ρ2 L2
          | .ret d L2 => .ret d L2
          | .exc c d ρ2 L2 => .exc c d ρ2 L2
          | .stuck => .stuck) := q
        cases hb2 : rb ρ3 L2 with
        | stuck => rw [hb2] at q; exact q.elim
        | next ρ4 L4 =>
          rw [hb2] at q
          exact fun F4 m4 σ4 H4 e4 s4 => ⟨F4, m4, ρ4, L4, e2.trans e4, s4, PostS.mono e4 q⟩
        | cont ρ4 L4 =>
          rw [hb2] at q
          exact fun F4 m4 σ4 H4 e4 s4 => ⟨F4, m4, ρ4, L4, e2.trans e4, s4, PostS.mono e4 q⟩
        | brk ρ4 L4 => rw [hb2] at q; exact q
        | ret d L4 => rw [hb2] at q; exact q
        | exc c d ρ4 L4 => rw [hb2] at q; exact q
    · have e : i = ds.length := by omega
      subst e
      refine Or.inl ⟨it.stop H2 (e2.trans s2.fh), ?_⟩
      rw [List.drop_length] at q
      exact q F2 m2 σ2 H2 (Same.refl _) s2
/-! ### while -/
def loopW (rc : RE) (body : RS) : Nat → RS
  | 0, _, _ => .stuck
  | n + 1, ρ, L => bindS (rc ρ L) ρ fun d L1 => match d with
    | .bool true => (match body ρ L1 with
      | .next ρ2 L2 => loopW rc body n ρ2 L2
      | .cont ρ2 L2 => loopW rc body n ρ2 L2
      | .brk ρ2 L2 => .next ρ2 L2
      | .ret d L2 => .ret d L2
      | .exc c d ρ2 L2 => .exc c d ρ2 L2
      | .stuck => .stuck)
    | .bool false => .next ρ L1
    | _ => .stuck
theorem dS_while (n : Nat) (hp : PassesOwn (model X.prog X.w) X.A X.env X.xe) (hc : DT X W c rc) (hb : DSs X W body rb) : DS X W (.While c body [] pos) (loopW rc rb n) := by
  refine ps_imp (ps_while hp hc hb) fun Dn σ H ⟨B, F, m, ρ, L, s, h⟩ => ?_
  refine ⟨fun k σ H => ∃ F m ρ L, Sta X.K B F m ρ L σ H ∧ PostS X.K X.mg B W F Dn (loopW rc rb k ρ L), ⟨n, F, m, ρ, L, s, h⟩, ?_⟩
  rintro k σ1 H1 ⟨F1, m1, ρ1, L1, s1, q⟩
  cases k with
  | zero => exact q.elim
  | succ k =>
    refine tT_S B F1 m1 ρ1 L1 s1 q (fun d L' z => by cases d <;> first | rfl | exact absurd rfl (z _)) fun b L2 F2 H2 e2 s2 q2 => ?_
    cases b with
    | false => exact q2 F2 m1 σ1 H2 (Same.refl _) s2
    | true =>
      refine ⟨fun σ3 H3 => ∃ F3 m3 ρ3 L3, Sta X.K B F3 m3 ρ3 L3 σ3 H3 ∧ PostS X.K X.mg B W F3 Dn (loopW rc rb k ρ3 L3), fun σ3 H3 hN => ⟨k, Nat.lt_succ_self k, hN⟩, B, F2, m1, ρ1, L2, s2, ?_⟩
      have q2 : PostS X.K X.mg B W F2 Dn (match rb ρ1 L2 with
        | .next ρ2 L2 => loopW rc rb k ρ2 L2
        | .cont ρ2 L2 => loopW rc rb k ρ2 L2
        | .brk ρ2 L2 => .next ρ2 L2
        | .ret d L2 => .ret d L2
        | .exc c d ρ2 L2 => .exc c d ρ2 L2
        | .stuck => .stuck) := q2
      cases hb2 : rb ρ1 L2 with
      | stuck => rw [hb2] at q2; exact q2.elim
      | next ρ4 L4 =>
        rw [hb2] at q2
        exact fun F4 m4 σ4 H4 e4 s4 => ⟨F4, m4, ρ4, L4, s4, PostS.mono e4 q2⟩
      | cont ρ4 L4 =>
        rw [hb2] at q2
        exact fun F4 m4 σ4 H4 e4 s4 => ⟨F4, m4, ρ4, L4, s4, PostS.mono e4 q2⟩
      | brk ρ4 L4 => rw [hb2] at q2; exact q2
      | ret d L4 => rw [hb2] at q2; exact q2
      | exc c d ρ4 L4 => rw [hb2] at q2; exact q2
end
end Sh
set_option maxRecDepth 100000
set_option maxHeartbeats 4000000
/-! Sh4: comprehensions, calls of the text's defs, a def by its body. -/
namespace Sh
open PySem L2 PyProof.Rows
abbrev WF : WX := fun _ _ _ _ => False
def bindN (a : Res) (k : D → Sto → Res) : Res := match a with
  | .ok d L => k d L
  | _ => .stuck
def consL (y : D) (r : Res) : Res := match r with
  | .ok (.list ys) L => .ok (.list (y :: ys)) L
  | _ => .stuck
def compD (g : RG) (tt te : RE) (ρ : En) : List D → Sto → Res
  | [], L => .ok (.list []) L
  | d :: ds, L => match g d ρ with
    | none => .stuck
    | some ρ1 => bindN (tt ρ1 L) fun b L1 => match b with
      | .bool true => bindN (te ρ1 L1) fun y L2 => consL y (compD g tt te ρ ds L2)
      | .bool false => compD g tt te ρ ds L1
      | _ => .stuck
def wipeE (ρ : En) : List Nat → En
  | [] => ρ
  | v :: vs => (wipeE ρ vs).set v .no
def rComp (ri : RI) (g : RG) (vs : List Nat) (tt te : RE) : RE := fun ρ L => match ri ρ L with
  | .stuck => .stuck
  | .exc c d L' => .exc c d L'
  | .ok ds L' => if ds.length ≤ 1000000 then compD g tt te (wipeE ρ vs) ds L' else .stuck
/-- the tests of a clause -/
def DTs (X : Cx) (W : WX) (ifs : List Expr) (r : RE) : Prop := PTs X ifs (tT X.K X.mg W r)
section
variable {K : PySem.W.Frag} {mg : Str → Option Value} {B : Bs} {F F' : Hp} {m : List Addr} {ρ : En} {L : Sto} {σ : L2.St} {H : Hp}
theorem Sta.wr (s : Sta K B F m ρ L σ H) {p : Addr} {o : HO} (hF : F p = none) (hm : p ∉ m) (hB : B.H p = none) : Sta K B F m ρ L σ (upd H p o) where
  fh := fun b u q => by rw [upd_ne (ne_of_none q hF)]; exact s.fh b u q
  ml := s.ml
  nd := s.nd
  al := fun a ha z => by
    have ne : a ≠ p := fun e => hm (e ▸ ha)
    rw [upd_ne ne] at z
    exact s.al a ha z
  ow := fun k a ds h1 h2 => by
    have ne : a ≠ p := fun e => hm (e ▸ List.mem_of_getElem? h1)
    obtain ⟨q, vs, hv, hd⟩ := s.ow k a ds h1 h2
    exact ⟨q, vs, by rw [upd_ne ne]; exact hv, hd⟩
  sl := s.sl
  bf := s.bf
  bn := s.bn
  bh := fun q u h hq => by rw [upd_ne (ne_of_none h hB)]; exact s.bh q u h hq
  bm := s.bm
  bw := s.bw
theorem Sta.adopt (s : Sta K B F m ρ L σ H) {p : Addr} {o : HO} (hp : H p = some o) (hF : F p = none) (hm : p ∉ m) (hB : B.H p = none) : Sta K B (upd F p o) m ρ L σ H where
  fh := fun b u q => by
    by_cases e : b = p
    · subst e
      rw [upd_same] at q
      rw [hp]
      exact q
    · rw [upd_ne e] at q
      exact s.fh b u q
  ml := s.ml
  nd := s.nd
  al := s.al
  ow := fun k a ds h1 h2 => by
    have ne : a ≠ p := fun e => hm (e ▸ List.mem_of_getElem? h1)
    obtain ⟨q, vs, hv, hd⟩ := s.ow k a ds h1 h2
    exact ⟨by rw [upd_ne ne]; exact q, vs, hv, dpa_mono (same_upd hF) hd⟩
  sl := paired_mono (fun _ _ h => h.mono (same_upd hF) (List.prefix_refl m)) s.sl
  bf := s.bf.trans (same_upd hF)
  bn := fun q h z => by
    by_cases e : q = p
    · subst e
      exact Or.inl hB
    · rw [upd_ne e] at z
      exact s.bn q h z
  bh := s.bh
  bm := s.bm
  bw := s.bw
theorem wipe_ok {m : List Addr} : ∀ {ρ : En} {σ : L2.St} (vs : List Nat), Paired (SlO K F m) ρ σ → Paired (SlO K F m) (wipeE ρ vs) (wipe σ vs)
  | _, _, [], h => h
  | _, _, v :: vs, h => paired_set (a := Sl.no) (b := none) trivial v (wipe_ok vs h)
/-- what a comprehension asks, from what its plain function says -/
theorem comp_go {W : WX} {ri : RI} {g : RG} {ts vs : List Nat} {tt te : RE} {Q : VK} (hts : ∀ i ∈ ts, i ∈ vs) (h : tE K mg W (rComp ri g vs tt te) σ H Q) : tLc (tI K mg W ri) (tG K g ts) (tT K mg WF tt) (tE K mg WF te) vs σ H Q := by
  obtain ⟨B, F, m, ρ, L, s, h⟩ := h
  have h : PostE K mg B W F m ρ σ Q (match ri ρ L with
    | .stuck => .stuck
    | .exc c d L' => .exc c d L'
    | .ok ds L' => if ds.length ≤ 1000000 then compD g tt te (wipeE ρ vs) ds L' else .stuck) := h
  refine ⟨B, F, m, ρ, L, s, ?_⟩
  cases hr : ri ρ L with
  | stuck => rw [hr] at h; exact h.elim
  | exc c d L' => rw [hr] at h; exact h
  | ok ds L' =>
    rw [hr] at h
    have h : PostE K mg B W F m ρ σ Q (if ds.length ≤ 1000000 then compD g tt te (wipeE ρ vs) ds L' else .stuck) := h
    by_cases hl : ds.length ≤ 1000000
    · rw [if_pos hl] at h
      intro J F1 H1 e1 s1 it Dl hD
      have hmD : Dl ∉ m := fun z => s1.al Dl z hD
      have hBD : B.H Dl = none := by
        cases r : B.H Dl with
        | none => rfl
        | some o =>
          by_cases hm : Dl ∈ B.m
          · exact absurd (B.m |> fun _ => s1.bm.subset hm) hmD
          · rw [s1.bh Dl o r hm] at hD
            cases hD
      have hF1 : F1 Dl = none := s1.fh.free hD
      -- what is left of the list, from the i-th item
      have start : ∃ ys L3, compD g tt te (wipeE ρ vs) ds L' = .ok (.list ys) L3 := by
        have key : ∀ (ds : List D) (L : Sto), (∃ ys L3, compD g tt te (wipeE ρ vs) ds L = .ok (.list ys) L3) ∨ compD g tt te (wipeE ρ vs) ds L = .stuck := by
          intro ds
          induction ds with
          | nil => exact fun L => Or.inl ⟨[], L, rfl⟩
          | cons d ds ih =>
            intro L
            unfold compD
            cases hg : g d (wipeE ρ vs) with
            | none => exact Or.inr rfl
            | some ρ1 =>
              show (∃ ys L3, bindN (tt ρ1 L) _ = _) ∨ bindN (tt ρ1 L) _ = _
              cases ht : tt ρ1 L with
              | stuck => exact Or.inr rfl
              | exc _ _ _ => exact Or.inr rfl
              | ok b L1 =>
                cases b with
                | bool k =>
                  cases k with
                  | false => exact ih L1
                  | true =>
                    show (∃ ys L3, bindN (te ρ1 L1) _ = _) ∨ bindN (te ρ1 L1) _ = _
                    cases hy : te ρ1 L1 with
                    | stuck => exact Or.inr rfl
                    | exc _ _ _ => exact Or.inr rfl
                    | ok y L2 =>
                      show (∃ ys L3, consL y _ = _) ∨ consL y _ = _
                      rcases ih L2 with ⟨ys, L3, e⟩ | e
                      · exact Or.inl ⟨y :: ys, L3, by rw [e]; rfl⟩
                      · exact Or.inr (by rw [e]; rfl)
                | none => exact Or.inr rfl
                | int _ => exact Or.inr rfl
                | str _ => exact Or.inr rfl
                | list _ => exact Or.inr rfl
                | tuple _ => exact Or.inr rfl
                | dict _ => exact Or.inr rfl
        rcases key ds L' with q | q
        · exact q
        · rw [q] at h
          exact h.elim
      obtain ⟨ys0, L30, e0⟩ := start
      refine ⟨fun i n H => n = ds.length - i ∧ i ≤ ds.length ∧ ∃ F2 L2 acc accD ys L3, Same F1 F2 ∧ Sta K B F2 m ρ L2 σ H ∧ F2 Dl = none ∧ H Dl = some (.lst acc) ∧ DpAll K F2 acc accD ∧ acc.length ≤ i ∧
        compD g tt te (wipeE ρ vs) (ds.drop i) L2 = .ok (.list ys) L3 ∧ PostE K mg B W F2 m ρ σ Q (.ok (.list (accD ++ ys)) L3),
        ⟨ds.length, by simp, Nat.zero_le _, F1, L', [], [], ys0, L30, Same.refl _, s1.wr hF1 hmD hBD, hF1, upd_same, .nil, Nat.le_refl _, e0, by rw [e0] at h; exact PostE.mono e1 h⟩, ?_⟩
      rintro i n H2 ⟨rfl, hi, F2, L2, acc, accD, ys, L3, e2, s2, hF2, hH2, hacc, hlen, hc, q⟩
      by_cases hlt : i < ds.length
      · have hd : ds[i]? = some ds[i] := List.getElem?_eq_getElem hlt
        obtain ⟨hgo, hy⟩ := it.go i _ H2 (e2.trans s2.fh) hd
        refine Or.inr ⟨hgo, fun H => ∃ F2 L2 acc accD ys L3, Same F1 F2 ∧ Sta K B F2 m ρ L2 σ H ∧ F2 Dl = none ∧ H Dl = some (.lst acc) ∧ DpAll K F2 acc accD ∧ acc.length ≤ i + 1 ∧
          compD g tt te (wipeE ρ vs) (ds.drop (i + 1)) L2 = .ok (.list ys) L3 ∧ PostE K mg B W F2 m ρ σ Q (.ok (.list (accD ++ ys)) L3), fun H' hN => ⟨ds.length - (i + 1), by omega, rfl, hlt, hN⟩, fun x H3 y => ?_⟩
        obtain ⟨eh, dx⟩ := hy x H3 y
        subst eh
        rw [drop_at hd] at hc
        unfold compD at hc
        cases hz : g ds[i] (wipeE ρ vs) with
        | none => rw [hz] at hc; cases hc
        | some ρ1 =>
          rw [hz] at hc
          refine ⟨⟨F2, m, H3⟩, F2, m, wipeE ρ vs, L2, ds[i], ρ1, s2.base.slots (wipe_ok vs s2.sl), dp_mono e2 dx, hz, fun σ2 t2 off => ⟨off vs hts |>.trans ?_, ?_⟩⟩
          · apply List.ext_getElem?
            intro j
            rw [wipe_at]
            by_cases hj : j ∈ vs ∧ j < (wipe σ vs).length
            · rw [if_pos hj, wipe_at, if_pos ⟨hj.1, by rw [wipe_length] at hj; exact hj.2⟩]
            · rw [if_neg hj]
          · have hc : bindN (tt ρ1 L2) (fun b L1 => match b with
              | .bool true => bindN (te ρ1 L1) fun y L2 => consL y (compD g tt te (wipeE ρ vs) (ds.drop (i + 1)) L2)
              | .bool false => compD g tt te (wipeE ρ vs) (ds.drop (i + 1)) L1
              | _ => .stuck) = .ok (.list ys) L3 := hc
            -- behind a part of the turn, the outer state again
            have outer : ∀ {F4 : Hp} {L4 : Sto} {H4 : Hp} {ρ4 : En}, Sta K ⟨F2, m, H3⟩ F4 m ρ4 L4 σ2 H4 → Sta K B F4 m ρ L4 σ H4 ∧ F4 Dl = none ∧ H4 Dl = some (.lst acc) := by
              intro F4 L4 H4 ρ4 t4
              refine ⟨(s2.rebase t4).slots (paired_mono (fun _ _ h => h.mono t4.bf (List.prefix_refl m)) s2.sl), ?_, t4.bh Dl _ hH2 hmD⟩
              cases r : F4 Dl with
              | none => rfl
              | some o =>
                rcases t4.bn Dl hF2 (by rw [r]; intro z; cases z) with z | z
                · have z' : H3 Dl = none := z
                  rw [hH2] at z'
                  cases z'
                · exact absurd z hmD
            refine ⟨⟨F2, m, H3⟩, F2, m, ρ1, L2, t2, ?_⟩
            cases ht : tt ρ1 L2 with
            | stuck => rw [ht] at hc; cases hc
            | exc _ _ _ => rw [ht] at hc; cases hc
            | ok b L4 =>
              rw [ht] at hc
              cases b with
              | bool k =>
                intro F4 H4 e4 t4
                cases k with
                | false =>
                  have hc : compD g tt te (wipeE ρ vs) (ds.drop (i + 1)) L4 = .ok (.list ys) L3 := hc
                  obtain ⟨o1, o2, o3⟩ := outer t4
                  exact ⟨F4, L4, acc, accD, ys, L3, e2.trans e4, o1, o2, o3, dpa_mono e4 hacc, by omega, hc, PostE.mono e4 q⟩
                | true =>
                  have hc : bindN (te ρ1 L4) (fun y L2 => consL y (compD g tt te (wipeE ρ vs) (ds.drop (i + 1)) L2)) = .ok (.list ys) L3 := hc
                  refine ⟨⟨F2, m, H3⟩, F4, m, ρ1, L4, t4, ?_⟩
                  cases hy : te ρ1 L4 with
                  | stuck => rw [hy] at hc; cases hc
                  | exc _ _ _ => rw [hy] at hc; cases hc
                  | ok yd L5 =>
                    rw [hy] at hc
                    intro yv F5 H5 e5 t5 dy
                    obtain ⟨o1, o2, o3⟩ := outer t5
                    refine ⟨acc, o3, by rw [sizeLine_eq]; omega, ?_⟩
                    have hc : consL yd (compD g tt te (wipeE ρ vs) (ds.drop (i + 1)) L5) = .ok (.list ys) L3 := hc
                    cases hk : compD g tt te (wipeE ρ vs) (ds.drop (i + 1)) L5 with
                    | stuck => rw [hk] at hc; cases hc
                    | exc _ _ _ => rw [hk] at hc; cases hc
                    | ok dd L6 =>
                      rw [hk] at hc
                      cases dd with
                      | list ys' =>
                        have hc : Res.ok (.list (yd :: ys')) L6 = .ok (.list ys) L3 := hc
                        cases hc
                        refine ⟨F5, L5, acc ++ [yv], accD ++ [yd], ys', _, (e2.trans e4).trans e5, o1.wr o2 hmD hBD, o2, upd_same, dpa_app (dpa_mono (e4.trans e5) hacc) (.cons dy .nil), ?_, hk, ?_⟩
                        · rw [List.length_append, List.length_singleton]
                          omega
                        · rw [List.append_assoc]
                          exact PostE.mono (e4.trans e5) q
                      | none => cases hc
                      | bool _ => cases hc
                      | int _ => cases hc
                      | str _ => cases hc
                      | tuple _ => cases hc
                      | dict _ => cases hc
              | none => cases hc
              | int _ => cases hc
              | str _ => cases hc
              | list _ => cases hc
              | tuple _ => cases hc
              | dict _ => cases hc
      · have e : i = ds.length := by omega
        subst e
        refine Or.inl ⟨it.stop H2 (e2.trans s2.fh), ?_⟩
        rw [List.drop_length] at hc
        have hc : Res.ok (.list []) L2 = .ok (.list ys) L3 := hc
        cases hc
        rw [List.append_nil] at q
        exact q (.ref Dl) (upd F2 Dl (.lst acc)) H2 (same_upd hF2) (s2.adopt hH2 hF2 hmD hBD) (.lst (SqL.of upd_same) (dpa_mono (same_upd hF2) hacc))
    · rw [if_neg hl] at h
      exact h.elim
end
section
variable {X : Cx} {W : WX} {elt tg iter c : Expr} {ifs : List Expr} {scope : Scope} {own : List (Str × Nat)} {pos : Pos} {ri : RI} {g : RG} {ts : List Nat} {tt te rc : RE}
theorem dTs_nil : DTs X W [] (rC (.bool true)) := ⟨fun pins s σ H Q I ⟨B, F, m, ρ, L, t, h⟩ => pts_nil.run pins s σ H Q I (h F H (Same.refl _) t)⟩
theorem dTs_one (h : DT X W c rc) : DTs X W [c] rc := pts_one h
/-- a block's own judgements: whatever its frame -/
abbrev Blk (X : Cx) (scope : Scope) (J : Cx → Prop) : Prop := ∀ (s : Shared) (H : Hp) (C : Addr) (cl : List (Str × Addr)) (fp : List Addr), J (X.blk s H scope (compEnvC scope cl C X.env) fp)
theorem dE_comp (hc : X.calm = true) (hN : X.N.Nodup) (hi : DI X W tg iter ri) (ok : BlkOk X.N X.env.scope scope own) (hg : Blk X scope fun Y => DG Y tg g ts) (ht : Blk X scope fun Y => DTs Y WF ifs tt) (he : Blk X scope fun Y => DE Y WF elt te)
    (hts : ∀ i ∈ ts, i ∈ own.map (·.2) := by decide) (hs : ∀ x, foldedSetIterable iter X.env x = pure x := by intro _; rfl) : DE X W (.ListComp elt [⟨tg, iter, ifs, 0⟩] scope pos) (rComp ri g (own.map (·.2)) tt te) :=
  pe_imp (pe_lc (wi := tI X.K X.mg W ri) (g := tG X.K g ts) (tt := tT X.K X.mg WF tt) (te := tE X.K X.mg WF te) hc hN hi ok hg ht he hs) fun _ _ _ h => comp_go hts h
theorem dS_setComp {i : Nat} {y : Str} {py spos : Pos} (hc : X.calm = true) (hN : X.N.Nodup) (hy : X.N[i]? = some y) (hyl : X.env.scope.names.lookup y = some .local)
    (hsw : swapsWith (.ListComp elt [⟨tg, iter, ifs, 0⟩] scope pos) (some (.Name y py)) spos.line X.env = pure true) (hi : DI X W tg iter ri) (ok : BlkOk X.N X.env.scope scope own) (hg : Blk X scope fun Y => DG Y tg g ts) (ht : Blk X scope fun Y => DTs Y WF ifs tt) (he : Blk X scope fun Y => DE Y WF elt te)
    (hts : ∀ i ∈ ts, i ∈ own.map (·.2) := by decide) (hs : ∀ x, foldedSetIterable iter X.env x = pure x := by intro _; rfl) : DS X W (.Assign [.Name y py] (.ListComp elt [⟨tg, iter, ifs, 0⟩] scope pos) spos) (rSet i (rComp ri g (own.map (·.2)) tt te)) :=
  dS_setC (ps_imp (ps_setLc (i := i) (wi := tI X.K X.mg W ri) (g := tG X.K g ts) (tt := tT X.K X.mg WF tt) (te := tE X.K X.mg WF te) hc hN hy hyl hsw hi ok hg ht he hs) fun _ _ _ h => comp_go hts h)
end

/-! ### defs -/
abbrev RF := List Sl → Sto → Res
def PostF (K : PySem.W.Frag) (mg : Str → Option Value) (F : Hp) (m : List Addr) (H : Hp) (Q : VK) (E : XK) : Res → Prop
  | .stuck => False
  | .ok d L' => ∀ v F' m' ρ' σ' H', Same F F' → Sta K ⟨F, m, H⟩ F' m' ρ' L' σ' H' → Dp K F' v d → Q v H'
  | .exc c d L' => ∀ cls dd F' m' ρ' σ' H', Same F F' → Sta K ⟨F, m, H⟩ F' m' ρ' L' σ' H' → XR K mg F' H' c d cls dd → E cls dd H'
/-- what a def promises by its plain function -/
def spD (K : PySem.W.Frag) (mg : Str → Option Value) (n : Nat) (r : RF) : Sp := fun vs H Q E => ∃ F m sls L, sls.length = n ∧ Sta K ⟨F, m, H⟩ F m sls L (vs.map some) H ∧ PostF K mg F m H Q E (r sls L)
/-- a def keeps a promise where no repr is under way -/
structure FnG (P : Program) (w : World) (K : PySem.W.Frag) (mg : Str → Option Value) (base : Heap) (k : Nat) (f : Addr) (fd : FuncData) (ps : List Str) (sp : Sp) : Prop where
  len : ∀ vs H Q E, sp vs H Q E → vs.length = ps.length
  go : ∀ (A : Around) (up : List Env) (s : Shared) (H : Hp) (ar : Args) (us : List Value) (vs : List V) (Q : VK) (E : XK), Room k A → A.guards = some [] → Env0 P w K mg base A up s H → BindsTo s fd ar (ps.zip us) → Vals vs us → sp vs H Q E →
    codeAny (model P w) A (.call (.ref f) ar) (CR (L2N.CX P w) up P w H s Q E) s
abbrev FnD (P : Program) (w : World) (K : PySem.W.Frag) (mg : Str → Option Value) (base : Heap) (k : Nat) (f : Addr) (fd : FuncData) (ps : List Str) (r : RF) : Prop := FnG P w K mg base k f fd ps (spD K mg ps.length r)
def rBody (N : Nat) (body : RS) : RF := fun sls L => match body (sls ++ List.replicate (N - sls.length) .no) L with
  | .ret d L' => .ok d L'
  | .next _ L' => .ok .none L'
  | .exc c d _ L' => .exc c d L'
  | _ => .stuck
def rCall (n : Nat) (f : RF) (ra : RA) : RE := fun ρ L => bindEA (ra ρ L) fun sls L1 => if sls.length = n then (match f sls L1 with
  | .ok d L2 => .ok d (L2.take L1.length)
  | .exc c d L2 => .exc c d (L2.take L1.length)
  | .stuck => .stuck) else .stuck
theorem takesF {X : Cx} : L2N.Takes X WF := fun _ _ ⟨_, _, _, _, _, _, _, _, _, _, _, _, _, _, _, _, w⟩ => w.elim
section
variable {X : Cx} {W : WX} {k : Nat} {f : Addr} {fd : FuncData} {ps : List Str} {r : RF} {x : Str} {p pos : Pos} {e : Expr} {es : List Expr} {ra : RA}
theorem call_go {K : PySem.W.Frag} {mg : Str → Option Value} {σ : L2.St} {H : Hp} {Q : VK} {n : Nat} (h : tE K mg W (rCall n r ra) σ H Q) : tCallS (spD K mg n r) (WE W) (tA K mg W ra) σ H Q := by
  obtain ⟨B, F, m, ρ, L, s, h⟩ := h
  refine tA_E B F m ρ L s h fun sls L1 vs F1 H1 e1 s1 dv q => ?_
  by_cases hn : sls.length = n
  · rw [if_pos hn] at q
    refine ⟨F1, m, sls, L1, hn, s1.base.slots (paired_map (fun _ _ h => SlO.of h) dv), ?_⟩
    cases hr : r sls L1 with
    | stuck => rw [hr] at q; exact q.elim
    | ok d L2 =>
      rw [hr] at q
      exact fun v F' m' ρ' σ' H' e t dv => q v F' H' e (s1.cut t) dv
    | exc c d L2 =>
      rw [hr] at q
      exact fun cls dd F' m' ρ' σ' H' e t xr => q cls dd F' H' e (s1.cut t) xr
  · rw [if_neg hn] at q
    exact q.elim
theorem run_G {sp : Sp} {pins : List (Addr × Obj)} {σ : L2.St} {H : Hp} {s : Shared} {Q : VK} {E : L2.St → XK} {us : List Value} {vs : List V} (G : FnG X.prog X.w X.K X.mg X.base k f fd ps sp) (hr : Room k X.A) (gd : X.A.guards = some []) (hb : Binds X.K fd ps [])
    (hx : PassesAt (L2N.CX X.prog X.w) X σ (E σ)) (I : Inv X pins σ H s) (rv : Vals vs us) (h : sp vs H Q (E σ)) : wpAny (model X.prog X.w) X.A (call (.ref f) us) (EP X pins σ Q) X.xe s := by
  have nl : us.length = ps.length := rv.length.symm.trans (G.len _ _ _ _ h)
  have bd := hb s us I.kIn (by rw [List.append_nil]; exact nl)
  rw [List.append_nil] at bd
  refine wpAny_call (codeAny_mono (G.go X.A X.stack s H ⟨us, []⟩ us vs Q (E σ) hr gd I.env0 bd rv h) fun q t hq => ?_)
  match q, hq with
  | .error e, hq => exact hx pins H s e t I hq
  | .ok (.ret u), hq => exact I.after hq
  | .ok .next, hq => exact False.elim hq
  | .ok .brk, hq => exact False.elim hq
  | .ok .cont, hq => exact False.elim hq
theorem pe_G {sp : Sp} {E : L2.St → XK} {t : TA} (G : FnG X.prog X.w X.K X.mg X.base k f fd ps sp) (hr : Room k X.A) (gd : X.A.guards = some []) (hg : Gl X x) (hm : X.mg x = some (.ref f)) (hk : PySem.W.keepIn X.K (.ref f) = true) (hb : Binds X.K fd ps []) (hx : ∀ σ, PassesAt (L2N.CX X.prog X.w) X σ (E σ))
    (ha : PA X (e :: es) t) (hdb : (x == ("__debug__" : Str)) = false := by decide) (he : starEach (e :: es) X.env = (false, eval e X.env) :: starEach es X.env := by rfl) (hpl : (backTo pos (starEach es X.env)).any (·.1) = false := by rfl) :
    PE X (.Call (.Name x p) (e :: es) [] pos) (tCallS sp E t) :=
  ⟨fun pins s σ H Q I h => wpAny_Call_Name_kw (ld_glob I hg hm (PySem.W.callWith_K (h₀ := X.base) I.ok.mod.kin hk (thn (ha.run pos pins s σ H _ I h) fun us t ⟨vs, H1, J, rv, q⟩ => ⟨J.kIn, run_G G hr gd hb (hx σ) J rv q⟩) he hpl) hdb)⟩
theorem pe_G0 {sp : Sp} {E : XK} (G : FnG X.prog X.w X.K X.mg X.base k f fd [] sp) (hr : Room k X.A) (gd : X.A.guards = some []) (hg : Gl X x) (hm : X.mg x = some (.ref f)) (hk : PySem.W.keepIn X.K (.ref f) = true) (hb : Binds X.K fd [] []) (hx : ∀ σ, PassesAt (L2N.CX X.prog X.w) X σ E)
    (hdb : (x == ("__debug__" : Str)) = false := by decide) : PE X (.Call (.Name x p) [] [] pos) (fun σ H Q => sp [] H Q E) :=
  ⟨fun pins s σ H Q I h => wpAny_Call_Name_kw (ld_glob I hg hm (PySem.W.callWith_K0 I.kIn hk (run_G (E := fun _ => E) (us := []) G hr gd hb (hx σ) I .nil h)) hdb)⟩
theorem dE_call (G : FnD X.prog X.w X.K X.mg X.base k f fd ps r) (hr : Room k X.A) (gd : X.A.guards = some []) (hg : Gl X x) (hm : X.mg x = some (.ref f)) (hk : PySem.W.keepIn X.K (.ref f) = true) (hb : Binds X.K fd ps []) (tk : L2N.Takes X W) (ha : DA X W (e :: es) ra)
    (hdb : (x == ("__debug__" : Str)) = false := by decide) (he : starEach (e :: es) X.env = (false, eval e X.env) :: starEach es X.env := by rfl) (hpl : (backTo pos (starEach es X.env)).any (·.1) = false := by rfl) :
    DE X W (.Call (.Name x p) (e :: es) [] pos) (rCall ps.length r ra) :=
  pe_imp (pe_G (E := WE W) G hr gd hg hm hk hb (fun σ => L2N.passAt tk σ) ha hdb he hpl) fun _ _ _ h => call_go h
theorem dE_call0 (G : FnD X.prog X.w X.K X.mg X.base k f fd [] r) (hr : Room k X.A) (gd : X.A.guards = some []) (hg : Gl X x) (hm : X.mg x = some (.ref f)) (hk : PySem.W.keepIn X.K (.ref f) = true) (hb : Binds X.K fd [] []) 
    (hdb : (x == ("__debug__" : Str)) = false := by decide) :
    DE X WF (.Call (.Name x p) [] [] pos) (rCall 0 r aNil) := by
  have hx : ∀ σ, PassesAt (L2N.CX X.prog X.w) X σ (fun _ _ _ => False) := fun σ _ _ _ _ _ _ ⟨_, _, _, _, _, _, _, _, _, _, _, _, z⟩ => z.elim
  refine pe_imp (pe_G0 (E := fun _ _ _ => False) G hr gd hg hm hk hb hx hdb) fun σ H Q h => ?_
  obtain ⟨B, F, m, ρ, L, s, h⟩ := h
  have h : PostE X.K X.mg B WF F m ρ σ Q (match r [] L with
    | .ok d L2 => .ok d (L2.take L.length)
    | .exc c d L2 => .exc c d (L2.take L.length)
    | .stuck => .stuck) := h
  refine ⟨F, m, [], L, rfl, s.base.slots .nil, ?_⟩
  cases hr : r [] L with
  | stuck => rw [hr] at h; exact h.elim
  | ok d L2 =>
    rw [hr] at h
    exact fun v F' m' ρ' σ' H' e t dv => h v F' H' e (s.cut t) dv
  | exc c d L2 =>
    rw [hr] at h
    exact fun cls dd F' m' ρ' σ' H' e t xr => h cls dd F' H' e (s.cut t) xr
theorem fn_G {P : Program} {w : World} {K : PySem.W.Frag} {mg : Str → Option Value} {base : Heap} {qual : Str} {st : Stmt} {N : List Str} {sp : Sp} (F : Fun K x qual st f fd) (S : FnScope N ps (defScope st)) (len : ∀ vs H Q E, sp vs H Q E → vs.length = ps.length)
    (bd : ∀ (cdv : Value) (A : Around) (up : List Env) (s : Shared) (H : Hp) (vs : List V) (Q : VK) (E : XK), Room k (A.deeper (envOfC qual (defScope st) s.heap.objs.size f cdv)) → A.guards = some [] → sp vs H Q E →
      ∃ t, PSs (cxOf (L2N.CX P w) P w K mg base N qual (defScope st) f cdv A up s H E) (defBody st) t ∧ t { nx := fun _ H' => Q .non H', rt := Q } (start N vs) H) : FnG P w K mg base (k + 1) f fd ps sp := by
  obtain ⟨oc, od, kV, doc, pm, an, cdv, ct, osl, rfl, lk, hcd⟩ := F.ex
  refine ⟨len, fun A up s H ar us vs Q E hr gd e0 hb rv hsp => ?_⟩
  have ln := len _ _ _ _ hsp
  have kin : K.In s.heap := e0.mod.kin.keeps fun b o e => (e0.bs b o e).1
  have nol : s.heap.NoLimit := e0.mod.nolimit.keeps fun b o e => (e0.bs b o e).1
  have kinds : ∀ y ∈ ps.zip us, (defScope st).names.lookup y.1 = some .local ∨ ((defScope st).names.lookup y.1 = some .cell ∧ ((cellsFrom (s.heap.objs.size + 1) (defScope st).names []).lookup y.1).isSome = true) := fun ⟨n, v⟩ hy =>
    (S.par n (List.of_mem_zip hy).1).elim Or.inl fun q => Or.inr ⟨q, PySem.W.cellsFrom_some _ _ _ (Or.inl q)⟩
  refine codeAny_call_function hr.depth (kin _ _ lk) rfl S.co S.gen rfl (PySem.W.codeRec_of kin hcd) (hb _ _ _ _ ?_)
  refine wpAny_newFunctionEnv_cells S.kind kinds fun env he s1 ic => ?_
  subst he
  refine ⟨nol.keeps ic.toInCall.keep, codeAny_func ?_⟩
  obtain ⟨t, ht, hq⟩ := bd cdv A up s H vs Q E (hr.deeper _) gd hsp
  refine wpAny_mono (ht.run [] s1 (start N vs) H _ (inv_start S hr.hd e0 ln rv ic) hq) (fun fl s' hs => ?_) fun _ _ z => z
  match fl, hs with
  | .ret u, ⟨v, _, H', J, r1, q⟩ => exact ⟨v, H', J.os, J.bare, J.base, J.hok, r1, q⟩
  | .next, ⟨_, H', J, q⟩ => exact ⟨V.non, H', J.os, J.bare, J.base, J.hok, rfl, q⟩
  | .brk, ⟨_, _, _, q⟩ => exact False.elim q
  | .cont, ⟨_, _, _, q⟩ => exact False.elim q
theorem DSs_ok {P : Program} {w : World} {K : PySem.W.Frag} {mg : Str → Option Value} {base : Heap} {qual : Str} {st : Stmt} {N : List Str} {body : RS} (F : Fun K x qual st f fd) (S : FnScope N ps (defScope st))
    (hbody : ∀ (cdv : Value) (A : Around) (outer : List Env) (s : Shared) (H : Hp) (E : XK), Room k (A.deeper (envOfC qual (defScope st) s.heap.objs.size f cdv)) → A.guards = some [] →
      DSs (cxOf (L2N.CX P w) P w K mg base N qual (defScope st) f cdv A outer s H E) (fun cls d _ H' => E cls d H') (defBody st) body) : FnD P w K mg base (k + 1) f fd ps (rBody N.length body) := by
  refine fn_G F S (fun vs H Q E ⟨F, m, sls, L, hn, s, _⟩ => ?_) fun cdv A outer s H vs Q E hr gd ⟨F, m, sls, L, hn, t, q⟩ => ⟨_, hbody cdv A outer s H E hr gd, ?_⟩
  · have := paired_len s.sl
    rw [List.length_map] at this
    omega
  · have hl : sls.length = vs.length := by
      have := paired_len t.sl
      rw [List.length_map] at this
      exact this
    have t2 : Sta K ⟨F, m, H⟩ F m (sls ++ List.replicate (N.length - sls.length) .no) L (start N vs) H := by
      refine t.slots (paired_app t.sl ?_)
      rw [hl]
      exact paired_rep (a := Sl.no) (b := none) trivial _
    refine ⟨⟨F, m, H⟩, F, m, _, L, t2, ?_⟩
    have q : PostF K mg F m H Q E (match body (sls ++ List.replicate (N.length - sls.length) .no) L with | .ret d L' => .ok d L' | .next _ L' => .ok .none L' | .exc c d _ L' => .exc c d L' | _ => .stuck) := q
    cases hr : body (sls ++ List.replicate (N.length - sls.length) .no) L with
    | stuck => rw [hr] at q; exact q.elim
    | brk _ _ => rw [hr] at q; exact q.elim
    | cont _ _ => rw [hr] at q; exact q.elim
    | next ρ' L' =>
      rw [hr] at q
      exact fun F' m' σ' H' e s' => q .non F' m' ρ' σ' H' e s' .non
    | ret d L' =>
      rw [hr] at q
      exact fun v F' m' ρ' σ' H' e s' dv => q v F' m' ρ' σ' H' e s' dv
    | exc c d ρ' L' =>
      rw [hr] at q
      exact fun cls dd F' m' σ' H' e s' x => q cls dd F' m' ρ' σ' H' e s' x
end
end Sh
set_option maxRecDepth 100000
set_option maxHeartbeats 4000000
/-! Sh5: operators and built-ins over data. -/
namespace Sh
open PySem L2 PyProof.Rows
/-! ### arithmetic -/
def addD : D → D → Option D
  | .int i, .int j => some (.int (i + j))
  | .str a, .str b => if a.length + b.length ≤ 1000000 then some (.str (a ++ b)) else none
  | .tuple a, .tuple b => if a.length + b.length ≤ 1000000 then some (.tuple (a ++ b)) else none
  | .list a, .list b => if a.length + b.length ≤ 1000000 then some (.list (a ++ b)) else none
  | _, _ => none
def subD : D → D → Option D
  | .int i, .int j => some (.int (i - j))
  | _, _ => none
def mulD : D → D → Option D
  | .int i, .int j => if i.natAbs.log2 + j.natAbs.log2 < 1000000 then some (.int (i * j)) else none
  | _, _ => none
def fdivD : D → D → Option D
  | .int i, .int j => if 0 < j ∧ j.natAbs.log2 < 9000 then some (.int (i / j)) else none
  | _, _ => none
def modD : D → D → Option D
  | .int i, .int j => if 0 < j then some (.int (i % j)) else none
  | _, _ => none
def powD : D → D → Option D
  | .int i, .int j => if 0 ≤ j ∧ j ≤ 1000000 ∧ i.natAbs < 2 ^ 64 then some (.int (i ^ j.toNat)) else none
  | _, _ => none
def negD : D → Option D
  | .int i => some (.int (-i))
  | _ => none
def cmpD (p : Int → Int → Bool) : D → D → Option D
  | .int i, .int j => some (.bool (p i j))
  | _, _ => none
theorem sz6 {n : Nat} (h : n ≤ 1000000) : n ≤ sizeLine := by rw [sizeLine_eq]; omega
section
variable {X : Cx} {K : PySem.W.Frag} {F H : Hp}
theorem dp_same (e : Same F H) {v : V} {d : D} (h : Dp K F v d) : Dp K H v d := dp_mono e h
/-- lists, whatever they are -/
def rCatQ (K : PySem.W.Frag) : R2 := fun x y H Q => ∃ l b xs zs, x = .ref l ∧ y = .ref b ∧ SqL K H l xs ∧ SqL K H b zs ∧ xs.length + zs.length ≤ sizeLine ∧ ∀ p, H p = none → Q (.ref p) (upd H p (.lst (xs ++ zs)))
theorem op_catQ : OpR X (binaryOp .Add) (rCatQ X.K) := by
  intro pins s σ H x y v u Q I rx ry ⟨l, b, xs, zs, ex, ey, hl, hb, hz, q⟩
  subst ex
  subst ey
  cases rx
  cases ry
  obtain ⟨i1, r1, ⟨o1, n1, g1, c1, d1, e1⟩, _⟩ := I.list hl
  obtain ⟨i2, r2, ⟨o2, n2, g2, c2, d2, e2⟩, _⟩ := I.list hb
  obtain ⟨k1, w1, t1, sl1⟩ := o1
  obtain ⟨k2, w2, t2, sl2⟩ := o2
  simp only at c1 d1 e1 c2 d2 e2
  subst c1 e1 c2 e2
  refine concat_meets ⟨_, g1, rfl⟩ ⟨_, g2, rfl⟩ noFill_list_add seq_list_add PySem.F.slot_list_add PySem.F.entry_list_add (PySem.F.args_list_add_2 _ _) (list_addW l b i1.toArray i2.toArray n1 n2 w1 w2 sl1 sl2 (by rw [List.size_toArray, List.size_toArray, ← r1.length, ← r2.length]; exact hz)) ⟨g1, g2, ?_⟩
  have ea : i1.toArray ++ i2.toArray = (i1 ++ i2).toArray := by simp
  rw [ea]
  exact ⟨.ref _, _, I.lnew (t' := s.toks) (r1.append r2) (by rw [List.length_append]; exact hz), rfl, q _ I.fresh⟩
def rAddA (K : PySem.W.Frag) : R2 := fun x y H Q => rI0 (fun i j => .int (i + j)) x y H Q ∨ (fun (x y : V) (H : Hp) (Q : VK) => ∃ i j, x = .str i ∧ y = .str j ∧ i.length + j.length ≤ sizeLine ∧ Q (.str (i ++ j)) H) x y H Q ∨ rCatA K x y H Q ∨ rCatQ K x y H Q
theorem op_addA : OpR X (binaryOp .Add) (rAddA X.K) := op_add.or (op_add_str.or (op_catA.or op_catQ))
theorem ok_add : OpOk K addD (rAddA K) := by
  intro F H x y z v u Q h e dx dy q
  cases dx with
  | int i =>
    cases dy with
    | int j =>
      cases h
      exact Or.inl ⟨i, j, rfl, rfl, q _ F H (Grow.refl e) (.int _)⟩
    | bl _ => cases h
    | non => cases h
    | str _ => cases h
    | lst _ _ => cases h
    | tup _ _ => cases h
  | str a =>
    cases dy with
    | str b =>
      have h : (if a.length + b.length ≤ 1000000 then some (PyData.str (a ++ b)) else none) = some z := h
      by_cases hl : a.length + b.length ≤ 1000000
      · rw [if_pos hl] at h
        cases h
        exact Or.inr (Or.inl ⟨a, b, rfl, rfl, sz6 hl, q _ F H (Grow.refl e) (.str _)⟩)
      · rw [if_neg hl] at h
        cases h
    | bl _ => cases h
    | non => cases h
    | int _ => cases h
    | lst _ _ => cases h
    | tup _ _ => cases h
  | @tup a xs ds h1 d1 =>
    cases dy with
    | @tup b ys es h2 d2 =>
      have h : (if ds.length + es.length ≤ 1000000 then some (PyData.tuple (ds ++ es)) else none) = some z := h
      by_cases hl : ds.length + es.length ≤ 1000000
      · rw [if_pos hl] at h
        cases h
        refine Or.inr (Or.inr (Or.inl ⟨a, b, xs, ys, rfl, rfl, seqT e h1, seqT e h2, by rw [dpa_len d1, dpa_len d2]; exact sz6 hl, fun hx => ?_, fun hx hy => ?_, fun hx hy p hp => ?_⟩))
        · subst hx
          cases d1
          exact q _ F H (Grow.refl e) (.tup h2 d2)
        · subst hy
          cases d2
          rw [List.append_nil] at q
          exact q _ F H (Grow.refl e) (.tup h1 d1)
        · have g := Grow.alloc (o := .tup (xs ++ ys)) e hp
          exact q _ _ _ g (.tup (SqT.of upd_same) (dpa_mono g.ff (dpa_app d1 d2)))
      · rw [if_neg hl] at h
        cases h
    | bl _ => cases h
    | non => cases h
    | int _ => cases h
    | lst _ _ => cases h
    | str _ => cases h
  | @lst a xs ds h1 d1 =>
    cases dy with
    | @lst b ys es h2 d2 =>
      have h : (if ds.length + es.length ≤ 1000000 then some (PyData.list (ds ++ es)) else none) = some z := h
      by_cases hl : ds.length + es.length ≤ 1000000
      · rw [if_pos hl] at h
        cases h
        refine Or.inr (Or.inr (Or.inr ⟨a, b, xs, ys, rfl, rfl, e.seq h1, e.seq h2, by rw [dpa_len d1, dpa_len d2]; exact sz6 hl, fun p hp => ?_⟩))
        have g := Grow.alloc (o := .lst (xs ++ ys)) e hp
        exact q _ _ _ g (.lst (SqL.of upd_same) (dpa_mono g.ff (dpa_app d1 d2)))
      · rw [if_neg hl] at h
        cases h
    | bl _ => cases h
    | non => cases h
    | int _ => cases h
    | str _ => cases h
    | tup _ _ => cases h
  | bl _ => cases h
  | non => cases h
/-- two ints -/
theorem ok_int {f : D → D → Option D} {C : Int → Int → Prop} {g : Int → Int → V} {g' : Int → Int → D} (hf : ∀ x y z, f x y = some z → ∃ i j, x = .int i ∧ y = .int j ∧ C i j ∧ z = g' i j) (hg : ∀ i j (F : Hp), Dp K F (g i j) (g' i j)) : OpOk K f (rI C g) := by
  intro F H x y z v u Q h e dx dy q
  obtain ⟨i, j, ex, ey, c, ez⟩ := hf x y z h
  subst ex
  subst ey
  subst ez
  cases dx
  cases dy
  exact ⟨i, j, rfl, rfl, c, q _ F H (Grow.refl e) (hg i j F)⟩
theorem ok_int0 {f : D → D → Option D} {g : Int → Int → V} {g' : Int → Int → D} (hf : ∀ x y z, f x y = some z → ∃ i j, x = .int i ∧ y = .int j ∧ z = g' i j) (hg : ∀ i j (F : Hp), Dp K F (g i j) (g' i j)) : OpOk K f (rI0 g) := by
  intro F H x y z v u Q h e dx dy q
  obtain ⟨i, j, ex, ey, ez⟩ := hf x y z h
  subst ex
  subst ey
  subst ez
  cases dx
  cases dy
  exact ⟨i, j, rfl, rfl, q _ F H (Grow.refl e) (hg i j F)⟩
theorem ok_sub : OpOk K subD (rI0 fun i j => .int (i - j)) := ok_int0 (g' := fun i j => .int (i - j)) (fun x y z h => by
  unfold subD at h
  split at h
  · cases h; exact ⟨_, _, rfl, rfl, rfl⟩
  · cases h) fun _ _ _ => .int _
theorem ok_mul : OpOk K mulD (rI CMulW fun i j => .int (i * j)) := ok_int (g' := fun i j => .int (i * j)) (fun x y z h => by
  unfold mulD at h
  split at h
  · split at h
    · cases h; exact ⟨_, _, rfl, rfl, by assumption, rfl⟩
    · cases h
  · cases h) fun _ _ _ => .int _
theorem ok_fdiv : OpOk K fdivD (rI CDivW fun i j => .int (i / j)) := ok_int (g' := fun i j => .int (i / j)) (fun x y z h => by
  unfold fdivD at h
  split at h
  · split at h
    · cases h; exact ⟨_, _, rfl, rfl, by assumption, rfl⟩
    · cases h
  · cases h) fun _ _ _ => .int _
theorem ok_mod : OpOk K modD (rI (fun _ j => 0 < j) fun i j => .int (i % j)) := ok_int (g' := fun i j => .int (i % j)) (fun x y z h => by
  unfold modD at h
  split at h
  · split at h
    · cases h; exact ⟨_, _, rfl, rfl, by assumption, rfl⟩
    · cases h
  · cases h) fun _ _ _ => .int _
theorem ok_pow : OpOk K powD (rI CPow fun i j => .int (i ^ j.toNat)) := ok_int (g' := fun i j => .int (i ^ j.toNat)) (fun x y z h => by
  unfold powD at h
  split at h
  · split at h
    · cases h; exact ⟨_, _, rfl, rfl, by assumption, rfl⟩
    · cases h
  · cases h) fun _ _ _ => .int _
theorem ok_cmp {p : Int → Int → Bool} : OpOk K (cmpD p) (rI0 fun i j => .bl (p i j)) := ok_int0 (g' := fun i j => .bool (p i j)) (fun x y z h => by
  unfold cmpD at h
  split at h
  · cases h; exact ⟨_, _, rfl, rfl, rfl⟩
  · cases h) fun _ _ _ => .bl _
theorem ok_neg : UnOk K negD (rU fun i => .int (-i)) := by
  intro F H x z v Q h e dx q
  cases dx with
  | int i =>
    cases h
    exact ⟨i, rfl, q _ F H (Grow.refl e) (.int _)⟩
  | bl _ => cases h
  | non => cases h
  | str _ => cases h
  | lst _ _ => cases h
  | tup _ _ => cases h
/-- name += e, ints -/
def addI : D → D → Option D
  | .int i, .int j => some (.int (i + j))
  | _, _ => none
theorem ok_ip : IpOk K addI (ipI fun i j => i + j) := by
  intro F H x y z v u Q h e dx dy q
  unfold addI at h
  split at h
  · cases h
    cases dx
    cases dy
    exact ⟨_, _, rfl, rfl, q _ F H (Grow.refl e) (.int _)⟩
  · cases h
/-! ### ==, in -/
def eqD (x y : D) : Option D := if SeqAt.shaped x && SeqAt.shaped y then some (.bool (PyData.eqv x y)) else none
def neD (x y : D) : Option D := if SeqAt.shaped x && SeqAt.shaped y then some (.bool (!PyData.eqv x y)) else none
theorem ok_eq : OpOk K eqD (rEqD K) := by
  intro F H x y z v u Q h e dx dy q
  unfold eqD at h
  split at h
  · rename_i hs
    rw [Bool.and_eq_true] at hs
    cases h
    exact ⟨x, y, dp_mono e dx, dp_mono e dy, hs.1, hs.2, q _ F H (Grow.refl e) (.bl _)⟩
  · cases h
theorem ok_ne : OpOk K neD (rNeD K) := by
  intro F H x y z v u Q h e dx dy q
  unfold neD at h
  split at h
  · rename_i hs
    rw [Bool.and_eq_true] at hs
    cases h
    exact ⟨x, y, dp_mono e dx, dp_mono e dy, hs.1, hs.2, q _ F H (Grow.refl e) (.bl _)⟩
  · cases h
def flatD : D → Bool
  | .none => true
  | .bool _ => true
  | .int _ => true
  | .str _ => true
  | _ => false
def flatOf : D → V
  | .none => .non
  | .bool b => .bl b
  | .int i => .int i
  | .str x => .str x
  | _ => .non
theorem flat_dp {v : V} {d : D} (h : Dp K F v d) (hf : flatD d = true) : v = flatOf d ∧ flatV v = true := by
  cases h with
  | non => exact ⟨rfl, rfl⟩
  | bl _ => exact ⟨rfl, rfl⟩
  | int _ => exact ⟨rfl, rfl⟩
  | str _ => exact ⟨rfl, rfl⟩
  | lst _ _ => cases hf
  | tup _ _ => cases hf
theorem flat_dpa : ∀ {vs : List V} {ds : List D}, DpAll K F vs ds → ds.all flatD = true → vs = ds.map flatOf ∧ vs.all flatV = true
  | _, _, .nil, _ => ⟨rfl, rfl⟩
  | _, _, .cons h t, hf => by
    rw [List.all_cons, Bool.and_eq_true] at hf
    obtain ⟨e1, f1⟩ := flat_dp h hf.1
    obtain ⟨e2, f2⟩ := flat_dpa t hf.2
    refine ⟨by rw [e1, e2]; rfl, ?_⟩
    rw [List.all_cons, f1, f2]
    rfl
/-- x in a list or tuple of flat things; one sign in a text -/
def inD (neg : Bool) : D → D → Option D
  | .str x, .str y => match x.cps.toList with
    | [c] => some (.bool (if neg then !decide (c ∈ y.cps.toList) else decide (c ∈ y.cps.toList)))
    | _ => none
  | x, .list ds => if flatD x && ds.all flatD then some (.bool (if neg then !inV (flatOf x) (ds.map flatOf) else inV (flatOf x) (ds.map flatOf))) else none
  | x, .tuple ds => if flatD x && ds.all flatD then some (.bool (if neg then !inV (flatOf x) (ds.map flatOf) else inV (flatOf x) (ds.map flatOf))) else none
  | _, _ => none
def rInT (neg : Bool) : R2 := fun x y H Q => ∃ (c : Nat) (z : Str), x = .str ⟨#[c]⟩ ∧ y = .str z ∧ Q (.bl (if neg then !decide (c ∈ z.cps.toList) else decide (c ∈ z.cps.toList))) H
def rInA (K : PySem.W.Frag) (neg : Bool) : R2 := fun x y H Q => rIn K neg x y H Q ∨ rInT neg x y H Q
theorem op_inA : OpR X (compareOp .In) (rInA X.K false) := op_in_seq.or (fun pins s σ H x y v u Q I rx ry ⟨c, z, e1, e2, q⟩ => op_in_sign pins s σ H x y v u Q I rx ry ⟨c, z, e1, e2, q⟩)
theorem op_niA : OpR X (compareOp .NotIn) (rInA X.K true) := op_notIn_seq.or (fun pins s σ H x y v u Q I rx ry ⟨c, z, e1, e2, q⟩ => op_notIn_sign pins s σ H x y v u Q I rx ry ⟨c, z, e1, e2, q⟩)
theorem ok_in {neg : Bool} : OpOk K (inD neg) (rInA K neg) := by
  intro F H x y z v u Q h e dx dy q
  cases dy with
  | str b =>
    cases dx with
    | str a =>
      have h : (match a.cps.toList with | [c] => some (PyData.bool (if neg then !decide (c ∈ b.cps.toList) else decide (c ∈ b.cps.toList))) | _ => none) = some z := h
      cases hc : a.cps.toList with
      | nil => rw [hc] at h; cases h
      | cons c r =>
        cases r with
        | cons _ _ => rw [hc] at h; cases h
        | nil =>
          rw [hc] at h
          cases h
          have ea : a = ⟨#[c]⟩ := by
            cases a with
            | mk cp =>
              have : cp = [c].toArray := by rw [← hc]
              rw [this]
          exact Or.inr ⟨c, b, by rw [ea], rfl, q _ F H (Grow.refl e) (.bl _)⟩
    | int _ => cases h
    | bl _ => cases h
    | non => cases h
    | lst _ _ => cases h
    | tup _ _ => cases h
  | @lst p ys es h2 d2 =>
    have h : (if flatD x && es.all flatD then some (PyData.bool (if neg then !inV (flatOf x) (es.map flatOf) else inV (flatOf x) (es.map flatOf))) else none) = some z := by
      cases x <;> exact h
    split at h
    · rename_i hs
      rw [Bool.and_eq_true] at hs
      cases h
      obtain ⟨e1, f1⟩ := flat_dp dx hs.1
      obtain ⟨e2, f2⟩ := flat_dpa d2 hs.2
      refine Or.inl ⟨p, ys, rfl, Or.inl (e.seq h2), f1, f2, ?_⟩
      rw [e1, e2]
      exact q _ F H (Grow.refl e) (.bl _)
    · cases h
  | @tup p ys es h2 d2 =>
    have h : (if flatD x && es.all flatD then some (PyData.bool (if neg then !inV (flatOf x) (es.map flatOf) else inV (flatOf x) (es.map flatOf))) else none) = some z := by
      cases x <;> exact h
    split at h
    · rename_i hs
      rw [Bool.and_eq_true] at hs
      cases h
      obtain ⟨e1, f1⟩ := flat_dp dx hs.1
      obtain ⟨e2, f2⟩ := flat_dpa d2 hs.2
      refine Or.inl ⟨p, ys, rfl, Or.inr (seqT e h2), f1, f2, ?_⟩
      rw [e1, e2]
      exact q _ F H (Grow.refl e) (.bl _)
    · cases h
  | bl _ => cases x <;> cases h
  | non => cases x <;> cases h
  | int _ => cases x <;> cases h
/-! ### items, slices -/
def ixD : D → D → Option D
  | .list ds, .int i => atI ds i
  | .tuple ds, .int i => atI ds i
  | .str x, .int i => if x.length ≤ 1000000 then (match atI x.cps.toList i with
    | some c => some (.str ⟨#[c]⟩)
    | none => none) else none
  | _, _ => none
theorem atI_dp {vs : List V} {ds : List D} {i : Int} {d : D} (h : DpAll K F vs ds) (e : atI ds i = some d) : ∃ v, atI vs i = some v ∧ Dp K F v d := by
  unfold atI at e ⊢
  rw [dpa_len h]
  cases hj : ixN ds.length i with
  | none => rw [hj] at e; cases e
  | some j =>
    rw [hj] at e
    exact dpa_get' h e
theorem ok_ix : OpOk K ixD (rIx K) := by
  intro F H x y z v u Q h e dx dy q
  cases dy with
  | int i =>
    cases dx with
    | @lst p xs ds h1 d1 =>
      obtain ⟨w, hw, dw⟩ := atI_dp d1 h
      exact Or.inl ⟨p, xs, i, w, rfl, rfl, e.seq h1, hw, q _ F H (Grow.refl e) dw⟩
    | @tup p xs ds h1 d1 =>
      obtain ⟨w, hw, dw⟩ := atI_dp d1 h
      exact Or.inr (Or.inl ⟨p, xs, i, w, rfl, rfl, seqT e h1, hw, q _ F H (Grow.refl e) dw⟩)
    | str a =>
      have h : (if a.length ≤ 1000000 then (match atI a.cps.toList i with | some c => some (PyData.str ⟨#[c]⟩) | none => none) else none) = some z := h
      split at h
      · rename_i hl
        cases hc : atI a.cps.toList i with
        | none => rw [hc] at h; cases h
        | some c =>
          rw [hc] at h
          cases h
          exact Or.inr (Or.inr ⟨a, i, c, rfl, rfl, sz6 hl, hc, q _ F H (Grow.refl e) (.str _)⟩)
      · cases h
    | bl _ => cases h
    | non => cases h
    | int _ => cases h
  | bl _ => cases dx <;> cases h
  | non => cases dx <;> cases h
  | str _ => cases dx <;> cases h
  | lst _ _ => cases dx <;> cases h
  | tup _ _ => cases dx <;> cases h
/-! ### built-ins by values -/
def lenD : List D → Option D
  | [.str x] => if x.length ≤ 1000000 then some (.int x.length) else none
  | [.list ds] => some (.int ds.length)
  | [.tuple ds] => some (.int ds.length)
  | _ => none
theorem ok_len : ClOk K lenD (fun xs H Q => ∃ x n, xs = [x] ∧ LenV K x H n ∧ Q (.int n) H) := by
  intro F H xs z vs Q h e dx q
  cases dx with
  | nil => cases h
  | cons d1 t =>
    cases t with
    | cons _ _ => cases d1 <;> cases h
    | nil =>
      cases d1 with
      | str x =>
        have h : (if x.length ≤ 1000000 then some (PyData.int x.length) else none) = some z := h
        split at h
        · rename_i hl
          cases h
          exact ⟨_, x.length, rfl, ⟨sz6 hl, rfl⟩, q _ F H (Grow.refl e) (.int _)⟩
        · cases h
      | @lst p ws ds h1 d1 =>
        cases h
        exact ⟨_, ws.length, rfl, Or.inl ⟨ws, e.seq h1, rfl⟩, by rw [dpa_len d1]; exact q _ F H (Grow.refl e) (.int _)⟩
      | @tup p ws ds h1 d1 =>
        cases h
        exact ⟨_, ws.length, rfl, Or.inr ⟨ws, seqT e h1, rfl⟩, by rw [dpa_len d1]; exact q _ F H (Grow.refl e) (.int _)⟩
      | bl _ => cases h
      | non => cases h
      | int _ => cases h
def intD : List D → Option D
  | [.int i] => some (.int i)
  | _ => none
theorem ok_intc : ClOk K intD (fun xs H Q => (∃ i, xs = [.int i] ∧ Q (.int i) H) ∨ ∃ k, xs = [.bl k] ∧ Q (.int (if k then 1 else 0)) H) := by
  intro F H xs z vs Q h e dx q
  unfold intD at h
  split at h
  · cases h
    cases dx with
    | cons d1 t =>
      cases t
      cases d1
      exact Or.inl ⟨_, rfl, q _ F H (Grow.refl e) (.int _)⟩
  · cases h
def minD : List D → Option D
  | [.int i, .int j] => some (.int (if j < i then j else i))
  | _ => none
theorem ok_min : ClOk K minD (fun xs H Q => ∃ i j, xs = [.int i, .int j] ∧ Q (.int (if j < i then j else i)) H) := by
  intro F H xs z vs Q h e dx q
  unfold minD at h
  split at h
  · cases h
    cases dx with
    | cons d1 t =>
      cases t with
      | cons d2 t =>
        cases t
        cases d1
        cases d2
        exact ⟨_, _, rfl, q _ F H (Grow.refl e) (.int _)⟩
  · cases h
def tupleD : List D → Option D
  | [.list ds] => some (.tuple ds)
  | [.tuple ds] => some (.tuple ds)
  | _ => none
theorem ok_tuple : ClOk K tupleD (fun xs H Q => ∃ p ys, xs = [.ref p] ∧ ((SqL K H p ys ∧ ∀ l, H l = none → Q (.ref l) (upd H l (.tup ys))) ∨ (SqT K H p ys ∧ Q (.ref p) H))) := by
  intro F H xs z vs Q h e dx q
  unfold tupleD at h
  split at h
  · cases h
    cases dx with
    | cons d1 t =>
      cases t
      cases d1 with
      | @lst p ws ds h1 dd =>
        refine ⟨p, ws, rfl, Or.inl ⟨e.seq h1, fun l hl => ?_⟩⟩
        have g := Grow.alloc (o := .tup ws) e hl
        exact q _ _ _ g (.tup (SqT.of upd_same) (dpa_mono g.ff dd))
  · cases h
    cases dx with
    | cons d1 t =>
      cases t
      cases d1 with
      | @tup p ws ds h1 dd => exact ⟨p, ws, rfl, Or.inr ⟨seqT e h1, q _ F H (Grow.refl e) (.tup h1 dd)⟩⟩
  · cases h
def listD : List D → Option D
  | [.list ds] => some (.list ds)
  | [.tuple ds] => some (.list ds)
  | _ => none
theorem ok_list : ClOk K listD (fun xs H Q => ∃ p ys, xs = [.ref p] ∧ (SqL K H p ys ∨ SqT K H p ys) ∧ ∀ l, H l = none → Q (.ref l) (upd H l (.lst ys))) := by
  intro F H xs z vs Q h e dx q
  unfold listD at h
  split at h
  · cases h
    cases dx with
    | cons d1 t =>
      cases t
      cases d1 with
      | @lst p ws ds h1 dd =>
        refine ⟨p, ws, rfl, Or.inl (e.seq h1), fun l hl => ?_⟩
        have g := Grow.alloc (o := .lst ws) e hl
        exact q _ _ _ g (.lst (SqL.of upd_same) (dpa_mono g.ff dd))
  · cases h
    cases dx with
    | cons d1 t =>
      cases t
      cases d1 with
      | @tup p ws ds h1 dd =>
        refine ⟨p, ws, rfl, Or.inr (seqT e h1), fun l hl => ?_⟩
        have g := Grow.alloc (o := .lst ws) e hl
        exact q _ _ _ g (.lst (SqL.of upd_same) (dpa_mono g.ff dd))
  · cases h
end
end Sh
set_option maxRecDepth 100000
set_option maxHeartbeats 4000000
/-! Sh6: chains, slices and index of texts, isinstance, repr, sorted. -/
namespace Sh
open PySem L2 PyProof.Rows
/-! ### a < b < c -/
def rChain (f f' : D → D → Option D) (ra rb rc : RE) : RE := fun ρ L => bindE (ra ρ L) fun x L1 => bindE (rb ρ L1) fun y L2 => match f x y with
  | some (.bool true) => bindE (rc ρ L2) fun z L3 => giveE (f' y z) L3
  | some (.bool false) => .ok (.bool false) L2
  | _ => .stuck
section
variable {X : Cx} {W : WX} {a b c e : Expr} {ra rb rc re : RE} {pos : Pos}
theorem chain_go {f f' : D → D → Option D} {r r' : R2} (hk : OpOk X.K f r) (hk' : OpOk X.K f' r') {σ : L2.St} {H : Hp} {Q : VK} (h : tE X.K X.mg W (rChain f f' ra rb rc) σ H Q) : tChain r r' (tE X.K X.mg W ra) (tE X.K X.mg W rb) (tE X.K X.mg W rc) σ H Q := by
  obtain ⟨B, F, m, ρ, L, s, h⟩ := h
  refine tE_bind B F m ρ L s h fun x L1 v F1 H1 e1 s1 dv q1 => ?_
  refine tE_bind B F1 m ρ L1 s1 q1 fun y L2 u F2 H2 e2 s2 du q2 => ?_
  cases hz : f x y with
  | none => rw [hz] at q2; exact q2.elim
  | some z =>
    rw [hz] at q2
    refine hk F2 H2 x y z v u _ hz s2.fh (dp_mono e2 dv) du fun w F3 H3 g dw => ?_
    have s3 := s2.grow g
    have q3 := PostE.mono g.ff q2
    cases dw with
    | bl k =>
      refine ⟨k, rfl, ?_⟩
      cases k with
      | false => exact q3 (.bl false) F3 H3 (Same.refl _) s3 (.bl false)
      | true =>
        refine tE_bind B F3 m ρ L2 s3 q3 fun z L4 w4 F4 H4 e4 s4 dw4 q4 => ?_
        cases hz2 : f' y z with
        | none => rw [hz2] at q4; exact q4.elim
        | some z4 =>
          rw [hz2] at q4
          exact hk' F4 H4 y z z4 u w4 Q hz2 s4.fh (dp_mono (g.ff.trans e4) du) dw4 (give_go (F' := F4) s4 q4)
    | non => exact q3.elim
    | int _ => exact q3.elim
    | str _ => exact q3.elim
    | lst _ _ => exact q3.elim
    | tup _ _ => exact q3.elim
theorem dE_chain {op op' : CmpOp} {f f' : D → D → Option D} {r r' : R2} (ho : OpR X (compareOp op) r) (hk : OpOk X.K f r) (ho' : OpR X (compareOp op') r') (hk' : OpOk X.K f' r') (ha : DE X W a ra) (hb : DE X W b rb) (hc : DE X W c rc)
    (hm : lastMarks [op, op'] [b, c] = false := by with_unfolding_all rfl) : DE X W (.Compare a [op, op'] [b, c] pos) (rChain f f' ra rb rc) :=
  pe_imp (pe_chain ho ho' ha hb hc hm) fun _ _ _ h => chain_go hk hk' h
theorem dT_chain {op op' : CmpOp} {f f' : D → D → Option D} {r r' : R2} (ho : OpR X (compareOp op) r) (hk : OpOk X.K f r) (ho' : OpR X (compareOp op') r') (hk' : OpOk X.K f' r') (ha : DE X W a ra) (hb : DE X W b rb) (hc : DE X W c rc)
    (hm : lastMarks [op, op'] [b, c] = false := by with_unfolding_all rfl) : DT X W (.Compare a [op, op'] [b, c] pos) (rChain f f' ra rb rc) := by
  refine pt_imp (pt_chain ho ho' ha hb hc hm) fun σ H Q ⟨B, F, m, ρ, L, s, h⟩ => ?_
  refine chain_go (W := W) (ra := ra) (rb := rb) (rc := rc) hk hk' ⟨B, F, m, ρ, L, s, ?_⟩
  cases hr : rChain f f' ra rb rc ρ L with
  | stuck =>
    rw [hr] at h
    exact h.elim
  | exc _ _ _ =>
    rw [hr] at h
    exact h
  | ok d L' =>
    rw [hr] at h
    intro v F' H' e s' dv
    cases dv with
    | bl k => exact ⟨k, rfl, h F' H' e s'⟩
    | non => exact h.elim
    | int i => exact h.elim
    | str i => exact h.elim
    | lst _ _ => exact h.elim
    | tup _ _ => exact h.elim

/-! ### slices of texts -/
/-- a part of a slice -/
def tO (K : PySem.W.Frag) (mg : Str → Option Value) (W : WX) (r : RE) : TO := fun σ H Q => ∃ B F m ρ L, Sta K B F m ρ L σ H ∧ match r ρ L with
  | .stuck => False
  | .ok (.int i) L' => ∀ F' H', Same F F' → Sta K B F' m ρ L' σ H' → Q (some i) H'
  | .ok .none L' => ∀ F' H', Same F F' → Sta K B F' m ρ L' σ H' → Q none H'
  | .ok _ _ => False
  | .exc c d L' => ∀ cls dd F' H', Same F F' → Sta K B F' m ρ L' σ H' → XR K mg F' H' c d cls dd → W cls dd σ H'
def DO (X : Cx) (W : WX) (o : Option Expr) (r : RE) : Prop := PO X o (tO X.K X.mg W r)
theorem po_imp {o : Option Expr} {t t' : TO} (h : PO X o t) (f : ∀ σ H Q, t' σ H Q → t σ H Q) : PO X o t' := ⟨fun pins s σ H Q I q => h.run pins s σ H Q I (f σ H Q q)⟩
theorem dO_none : DO X W none (rC .none) := po_imp po_none fun σ H Q ⟨B, F, m, ρ, L, s, h⟩ => h F H (Same.refl _) s
def rInt (re : RE) : RE := fun ρ L => bindE (re ρ L) fun d L' => match d with
  | .int i => .ok (.int i) L'
  | _ => .stuck
theorem dO_some (he : DE X W e re) : DO X W (some e) (rInt re) := by
  refine po_imp (po_some he) fun σ H Q ⟨B, F, m, ρ, L, s, h⟩ => ?_
  refine ⟨B, F, m, ρ, L, s, ?_⟩
  unfold rInt at h
  cases hr : re ρ L with
  | stuck =>
    rw [hr] at h
    exact h.elim
  | exc _ _ _ =>
    rw [hr] at h
    exact h
  | ok d L' =>
    rw [hr] at h
    intro v F' H' e s' dv
    cases dv with
    | int i => exact ⟨i, rfl, h F' H' e s'⟩
    | bl k => exact h.elim
    | non => exact h.elim
    | str i => exact h.elim
    | lst _ _ => exact h.elim
    | tup _ _ => exact h.elim
def optI : D → Option (Option Int)
  | .none => some none
  | .int i => some (some i)
  | _ => none
/-- e[lo:hi] by values -/
def rSlc (f : D → Option Int → Option Int → Option D) (re rl rh : RE) : RE := fun ρ L => bindE (re ρ L) fun x L1 => bindE (rl ρ L1) fun l L2 => match optI l with
  | none => .stuck
  | some l => bindE (rh ρ L2) fun u L3 => match optI u with
    | none => .stuck
    | some u => giveE (f x l u) L3
def SlOk (K : PySem.W.Frag) (f : D → Option Int → Option Int → Option D) (r : V → Option Int → Option Int → Hp → VK → Prop) : Prop := ∀ F H x l u z v (Q : VK), f x l u = some z → Same F H → Dp K F v x → (∀ w F' H', Grow F H F' H' → Dp K F' w z → Q w H') → r v l u H Q
theorem tO_E {K : PySem.W.Frag} {mg : Str → Option Value} {σ : L2.St} {H : Hp} {ra : RE} {g : D → Sto → Res} {Q : VK} (B : Bs) (F : Hp) (m : List Addr) (ρ : En) (L : Sto) (s : Sta K B F m ρ L σ H) (h : PostE K mg B W F m ρ σ Q (bindE (ra ρ L) g)) (hg : ∀ d L', optI d = none → g d L' = .stuck)
    {R : Option Int → Hp → Prop} (hR : ∀ d o L' F' H', optI d = some o → Same F F' → Sta K B F' m ρ L' σ H' → PostE K mg B W F' m ρ σ Q (g d L') → R o H') : tO K mg W ra σ H R := by
  refine ⟨B, F, m, ρ, L, s, ?_⟩
  cases hr : ra ρ L with
  | stuck =>
    rw [hr] at h
    exact h.elim
  | exc _ _ _ =>
    rw [hr] at h
    exact h
  | ok d L' =>
    rw [hr] at h
    cases d with
    | int i => exact fun F' H' e s' => hR (.int i) (some i) L' F' H' rfl e s' (PostE.mono e h)
    | none => exact fun F' H' e s' => hR .none none L' F' H' rfl e s' (PostE.mono e h)
    | bool b => rw [show bindE (.ok (.bool b) L') g = .stuck from hg _ _ rfl] at h; exact h.elim
    | str i => rw [show bindE (.ok (.str i) L') g = .stuck from hg _ _ rfl] at h; exact h.elim
    | list i => rw [show bindE (.ok (.list i) L') g = .stuck from hg _ _ rfl] at h; exact h.elim
    | tuple i => rw [show bindE (.ok (.tuple i) L') g = .stuck from hg _ _ rfl] at h; exact h.elim
    | dict i => rw [show bindE (.ok (.dict i) L') g = .stuck from hg _ _ rfl] at h; exact h.elim
theorem dE_slc {f : D → Option Int → Option Int → Option D} {r : V → Option Int → Option Int → Hp → VK → Prop} {lo hi : Option Expr} {rl rh : RE} {p2 : Pos} (hr : SlR X r) (hk : SlOk X.K f r) (he : DE X W e re) (hl : DO X W lo rl) (hu : DO X W hi rh) :
    DE X W (.Subscript e (.Slice lo hi none p2) pos) (rSlc f re rl rh) := by
  refine pe_imp (pe_slice hr he hl hu) fun σ H Q ⟨B, F, m, ρ, L, s, h⟩ => ?_
  refine tE_bind B F m ρ L s h fun x L1 v F1 H1 e1 s1 dv q1 => ?_
  refine tO_E B F1 m ρ L1 s1 q1 (fun d L' z => by simp only [z]) fun d l L2 F2 H2 hd e2 s2 q2 => ?_
  simp only [hd] at q2
  refine tO_E B F2 m ρ L2 s2 q2 (fun d' L' z => by simp only [z]) fun d' u L3 F3 H3 hd' e3 s3 q3 => ?_
  simp only [hd'] at q3
  cases hz : f x l u with
  | none => rw [hz] at q3; exact q3.elim
  | some z =>
    rw [hz] at q3
    exact hk F3 H3 x l u z v Q hz s3.fh (dp_mono (e2.trans e3) dv) (give_go (F' := F3) s3 q3)
/-- a text's part -/
def cutD : D → Option Int → Option Int → Option D
  | .str z, lo, hi => if z.length ≤ 1000000 then some (.str (cutS z lo hi)) else none
  | _, _, _ => none
theorem ok_cut {K : PySem.W.Frag} : SlOk K cutD rSlS := by
  intro F H x l u z v Q h e dx q
  cases dx with
  | str a =>
    have h : (if a.length ≤ 1000000 then some (PyData.str (cutS a l u)) else none) = some z := h
    split at h
    · rename_i hl
      cases h
      exact ⟨a, rfl, sz6 hl, q _ F H (Grow.refl e) (.str _)⟩
    · cases h
  | bl _ => cases h
  | non => cases h
  | int _ => cases h
  | lst _ _ => cases h
  | tup _ _ => cases h
/-- e[::k], e a text, k written, not 0, not 1 -/
def stepS (z : Str) (k : Int) : Str := ⟨((Builtin.Str.strSliceIndices none none k z.length).filterMap (z.cps[·]?)).toArray⟩
def stepD (k : Int) : D → Option D
  | .str z => if (stepS z k).length ≤ 1000000 then some (.str (stepS z k)) else none
  | _ => none
theorem dE_step {k : Int} {j : Nat} {p1 p2 : Pos} (h0 : (k == 0) = false) (h1 : (k == 1) = false) (he : DE X W e re) : DE X W (.Subscript e (.Slice none none (some (.Constant (.int k) j p1)) p2) pos) (rUn (stepD k) re) := by
  refine ⟨fun pins s σ H Q I ⟨B, F, m, ρ, L, t, h⟩ => ?_⟩
  refine Subscript_ (thn (he.run pins s σ H _ I (tE_bind B F m ρ L t h (R := fun v H' => ∃ z F' L', v = .str z ∧ (stepS z k).length ≤ 1000000 ∧ Sta X.K B F' m ρ L' σ H' ∧ PostE X.K X.mg B W F' m ρ σ Q (.ok (.str (stepS z k)) L')) fun x L1 v F1 H1 e1 s1 dv q1 => ?_)) fun v s1 hv => ?_)
  · cases dv with
    | str z =>
      have q1 : PostE X.K X.mg B W F1 m ρ σ Q (giveE (if (stepS z k).length ≤ 1000000 then some (.str (stepS z k)) else none) L1) := q1
      by_cases hl : (stepS z k).length ≤ 1000000
      · rw [if_pos hl] at q1
        exact ⟨z, F1, L1, rfl, hl, s1, q1⟩
      · rw [if_neg hl] at q1
        exact q1.elim
    | bl _ => exact q1.elim
    | non => exact q1.elim
    | int _ => exact q1.elim
    | lst _ _ => exact q1.elim
    | tup _ _ => exact q1.elim
  · obtain ⟨x, H1, I1, r1, z, F1, L1, ex, hl, t1, q1⟩ := hv
    subst ex
    obtain ⟨tz, ev⟩ := r1
    subst ev
    refine wpAny_Slice ?_
    rw [evalPart_none]
    refine wpAny_pure ?_
    refine wpAny_pure ?_
    rw [evalPart_some]
    refine wpAny_Constant_int ?_
    have I2 : Inv X pins σ H1 { s1 with heap := s1.heap.push { cls := .type "slice", data := .fields #[.none, .none, .int k s1.toks] }, toks := s1.toks + 1 } := I1.kept fun b ob q => Heap.get?_push_of_some _ q
    show wpAny (model X.prog X.w) X.A (subscriptTail e (.Slice none none (some (.Constant (.int k) j p1)) p2) (.str z tz) (.ref s1.heap.objs.size)) (EP X pins σ Q) X.xe _
    refine tail_any (ops := [.ref s1.heap.objs.size, .str z tz]) (typeIs_str _ _ _) PySem.F.slot_str_getitem.lookup ?_ (by with_unfolding_all rfl)
    refine wpAny_getItem_str_slice (l := none) (u := none) (st := some (k, s1.toks)) ⟨_, Heap.get?_push_size _ rfl, rfl, rfl⟩ h0 ?_
    show Made.post (if (k == 1 && (Builtin.Str.strSliceIndices none none k z.length).length == z.length) = true then Made.val (.str z tz) else Made.str (stepS z k)) (EP X pins σ Q) _
    rw [h1, Bool.false_and, if_neg Bool.false_ne_true]
    exact ⟨sz6 hl, .str _, H1, I2.tok _, ⟨_, rfl⟩, q1 (.str _) F1 H1 (Same.refl _) t1 (.str _)⟩
/-! ### text.index(sign), where the sign stands once -/
def onceAt (c : Nat) (l : List Nat) : Option Nat := match l.findIdx? (· == c) with
  | some i => if (l.drop (i + 1)).contains c then none else some i
  | none => none
def optInt : Option Nat → Option D
  | some i => some (.int i)
  | none => none
def sidx1 (x : Str) : List Nat → Option D
  | [c] => optInt (onceAt c x.cps.toList)
  | _ => none
def sidxD : D → D → Option D
  | .str x, .str y => sidx1 x y.cps.toList
  | _, _ => none
theorem occ_once {x : Str} {c i : Nat} (h : onceAt c x.cps.toList = some i) : ∃ r, Builtin.Str.occurrences x ⟨#[c]⟩ 0 x.length 1 = i :: r := by
  unfold onceAt at h
  cases hf : x.cps.toList.findIdx? (· == c) with
  | none => rw [hf] at h; cases h
  | some j =>
    rw [hf] at h
    have h : (if (x.cps.toList.drop (j + 1)).contains c then none else some j) = some i := h
    split at h
    · cases h
    · rename_i hn
      cases h
      obtain ⟨hlt, hc, hfirst⟩ := List.findIdx?_eq_some_iff_getElem.mp hf
      have hm : c ∈ x.cps.toList := by
        have : x.cps.toList[i] = c := by simpa using hc
        rw [← this]
        exact List.getElem_mem hlt
      have ne : (!(Builtin.Str.occurrences x ⟨#[c]⟩ 0 x.length 1).isEmpty) = true := by
        rw [PySem.StrLaws.found_one]
        exact decide_eq_true hm
      cases ho : Builtin.Str.occurrences x ⟨#[c]⟩ 0 x.length 1 with
      | nil => rw [ho] at ne; cases ne
      | cons k r =>
        have sp := PySem.StrLaws.occ_spec x ⟨#[c]⟩ 0 x.length 1 k (by rw [ho]; exact List.mem_cons_self ..)
        have hk : x.cps[k]? = some c := by
          have h2 := sp.2
          unfold Builtin.Str.subAt at h2
          have h3 : x.cps.extract k (k + 1) = #[c] := eq_of_beq h2
          have h4 : (x.cps.extract k (k + 1))[0]? = some c := by rw [h3]; rfl
          rw [Array.getElem?_extract] at h4
          split at h4
          · simpa using h4
          · cases h4
        have hk2 : x.cps.toList[k]? = some c := by simpa using hk
        have ek : k = i := by
          rcases Nat.lt_trichotomy k i with q | q | q
          · have := hfirst k q
            obtain ⟨h5, h6⟩ := List.getElem?_eq_some_iff.mp hk2
            rw [h6] at this
            simp at this
          · exact q
          · exfalso
            apply hn
            have : (x.cps.toList.drop (i + 1))[k - (i + 1)]? = some c := by
              rw [List.getElem?_drop, show i + 1 + (k - (i + 1)) = k by omega]
              exact hk2
            have hmem := List.mem_of_getElem? this
            simpa using hmem
        subst ek
        exact ⟨r, rfl⟩
def rSidx (ro ra : RE) : RE := fun ρ L => bindE (ro ρ L) fun x L1 => match x with
  | .str x => bindE (ra ρ L1) fun y L2 => giveE (sidxD (.str x) y) L2
  | _ => .stuck
theorem dE_sidx {o a : Expr} {ro ra : RE} {ap cp : Pos} (ho : DE X W o ro) (ha : DE X W a ra)
    (hbase : attributeBase o "index" X.env (eval o X.env) = eval o X.env := by rfl)
    (hfew : ((backTo cp (starEach (a :: []) X.env)).all (fun x => !x.1) && (backToKw cp (keywordEach [] X.env)).all (fun x => x.1.isSome)
      && decide ((a :: []).length + ([] : List Keyword).length + (if ([] : List Keyword).isEmpty then 0 else 1) < 30)) = true := by rfl)
    (hline : (ap.endLine == cp.line) = true := by rfl) (hs : starEach (a :: []) X.env = (false, eval a X.env) :: starEach [] X.env := by rfl) (hplain : (backTo cp (starEach [] X.env)).any (·.1) = false := by rfl) :
    DE X W (.Call (.Attribute o "index" ap) [a] [] cp) (rSidx ro ra) := by
  refine pe_imp (pe_bm PySem.F.plainAttrs_str PySem.F.slot_str_index PySem.F.type_str_index mt_sindex ho (pa_cons ha pa_nil hs) hbase hfew hline hs hplain) fun σ H Q ⟨B, F, m, ρ, L, s, h⟩ => ?_
  refine tE_bind B F m ρ L s h fun x L1 v F1 H1 e1 s1 dv q1 => ?_
  cases dv with
  | str x =>
    refine ⟨rfl, tE_bind B F1 m ρ L1 s1 q1 fun y L2 u F2 H2 e2 s2 du q2 => ?_⟩
    cases du with
    | str y =>
      have q2 : PostE X.K X.mg B W F2 m ρ σ Q (giveE (sidx1 x y.cps.toList) L2) := q2
      cases hc : y.cps.toList with
      | nil =>
        rw [hc] at q2
        exact q2.elim
      | cons c r =>
        rw [hc] at q2
        cases r with
        | cons _ _ => exact q2.elim
        | nil =>
          have q2 : PostE X.K X.mg B W F2 m ρ σ Q (giveE (optInt (onceAt c x.cps.toList)) L2) := q2
          cases hi : onceAt c x.cps.toList with
          | none =>
            rw [hi] at q2
            exact q2.elim
          | some i =>
            rw [hi] at q2
            have q5 : PostE X.K X.mg B W F2 m ρ σ Q (.ok (.int i) L2) := q2
            clear q2
            obtain ⟨r, hr⟩ := occ_once hi
            have ey : y = ⟨#[c]⟩ := by
              cases y with
              | mk cp =>
                have : cp = [c].toArray := by rw [← hc]
                rw [this]
            subst ey
            exact ⟨x, ⟨#[c]⟩, i, r, rfl, rfl, hr, q5 (.int i) F2 H2 (Same.refl _) s2 (.int _)⟩
    | bl _ => exact q2.elim
    | non => exact q2.elim
    | int _ => exact q2.elim
    | lst _ _ => exact q2.elim
    | tup _ _ => exact q2.elim
  | bl _ => exact q1.elim
  | non => exact q1.elim
  | int _ => exact q1.elim
  | lst _ _ => exact q1.elim
  | tup _ _ => exact q1.elim
end
end Sh
set_option maxRecDepth 100000
set_option maxHeartbeats 4000000
/-! Sh7: len(set(text)). -/
namespace Sh
open PySem L2 PyProof.Rows
/-- a text of one sign -/
def sg (c : Nat) : Str := ⟨#[c]⟩
/-- how many kinds of items stand ahead of the i-th -/
def cntN (l : List Nat) : Nat → Nat
  | 0 => 0
  | i + 1 => match l[i]? with
    | some c => if c ∈ l.take i then cntN l i else cntN l i + 1
    | none => cntN l i
theorem cntN_le (l : List Nat) : ∀ i, cntN l i ≤ i
  | 0 => Nat.le_refl _
  | i + 1 => by
    have ih := cntN_le l i
    unfold cntN
    split
    · split <;> omega
    · omega
def inSg (l : List Nat) (i : Nat) (k : Str) : Bool := decide (k ∈ (l.take i).map sg)
theorem sg_inj {a b : Nat} (h : sg a = sg b) : a = b := by
  have e : (sg a).cps.toList = (sg b).cps.toList := by rw [h]
  have e2 : [a] = [b] := e
  cases e2
  rfl
theorem inSg_step {l : List Nat} {i c : Nat} (h : l[i]? = some c) (k : Str) : (inSg l i k || decide (k = sg c)) = inSg l (i + 1) k := by
  unfold inSg
  rw [List.take_add_one, h]
  simp [List.mem_append]
theorem inSg_at {l : List Nat} {i c : Nat} : inSg l i (sg c) = decide (c ∈ l.take i) := by
  unfold inSg
  by_cases h : c ∈ l.take i
  · rw [decide_eq_true h, decide_eq_true (List.mem_map_of_mem h)]
  · rw [decide_eq_false h, decide_eq_false]
    intro z
    obtain ⟨d, hd, e⟩ := List.mem_map.mp z
    exact h (sg_inj e ▸ hd)
theorem cntN_step {l : List Nat} {i c : Nat} (h : l[i]? = some c) : (if inSg l i (sg c) = true then cntN l i else cntN l i + 1) = cntN l (i + 1) := by
  rw [inSg_at]
  show _ = (match l[i]? with | some c => if c ∈ l.take i then cntN l i else cntN l i + 1 | none => cntN l i)
  rw [h]
  by_cases hc : c ∈ l.take i
  · rw [decide_eq_true hc, if_pos rfl]
    exact (if_pos hc).symm
  · rw [decide_eq_false hc, if_neg Bool.false_ne_true]
    exact (if_neg hc).symm
section
variable {pg : Program} {w : World} {A : Around} {R : Result → Shared → Prop} {I : Addr} {fp wr : List Addr} {G : Array GenState → Array GenState → Prop} {n : Nat} {St : Nat → Shared → Prop}
/-- the signs of a text laid into a set, one by one -/
theorem lay_signs (l : List Nat) {x : Str} (hx : x.cps.toList = l) (hn : n = l.length) (W : WalksS pg w A.in1 I fp wr G n (SignAt x) St) (a : Addr) (ha : a ∉ fp) (hb : n + 1 < scanBound) :
    ∀ (k i : Nat) (s : Shared), n - i = k → i ≤ n → St i s → s.heap.SetOf (strKind pg w) a (inSg l i) (cntN l i) →
      (∀ s', Moved (a :: wr) G s s' → s'.heap.SetOf (strKind pg w) a (inSg l n) (cntN l n) → R (.ok (.ret .none)) s') →
      codeAny (model pg w) A (.builtin "set.update.loop" ⟨[.ref a, .ref I], []⟩) R s := by
  have haw : a ∉ wr := fun h => ha (W.sub _ h)
  have sub2 : ∀ b ∈ wr, b ∈ a :: wr := fun b => List.mem_cons_of_mem a
  intro k
  induction k with
  | zero =>
    intro i s hk hi st S hR
    have e : i = n := by omega
    subst e
    refine codeAny_builtin PyProof.Rows.F.entry_set_update_loop ?_
    rw [Around.under_plainId PyProof.Rows.F.plain_set_update_loop _]
    show wpAny _ A.in1 (pyNext (Value.ref I) >>= _) _ _ s
    refine wpAny_bind (W.done s _ _ st fun s1 mv => ?_)
    show wpAny _ A.in1 (ret .none) _ _ s1
    refine wpAny_pure (hR s1 (mv.mono sub2) ?_)
    obtain ⟨ob, es, ep, t, g, r⟩ := S
    exact ⟨ob, es, ep, t, mv.heap a _ haw g, r⟩
  | succ k ih =>
    intro i s hk hi st S hR
    have lt : i < n := by omega
    refine codeAny_builtin PyProof.Rows.F.entry_set_update_loop ?_
    rw [Around.under_plainId PyProof.Rows.F.plain_set_update_loop _]
    show wpAny _ A.in1 (pyNext (Value.ref I) >>= _) _ _ s
    refine wpAny_bind (W.item i s _ _ lt st fun v s1 hv st1 mv => ?_)
    obtain ⟨c, u, hc, ev⟩ := hv
    subst ev
    have hc2 : l[i]? = some c := by rw [← hx]; simpa using hc
    have S1 : s1.heap.SetOf (strKind pg w) a (inSg l i) (cntN l i) := by
      obtain ⟨ob, es, ep, t, g, r⟩ := S
      exact ⟨ob, es, ep, t, mv.heap a _ haw g, r⟩
    show wpAny _ A.in1 (holding [Value.str (sg c) u] (setAdd a (.str (sg c) u)) >>= _) _ _ s1
    refine wpAny_bind (wpAny_holding ?_)
    unfold setAdd
    refine wpAny_holding ?_
    refine wpAny_bind ((strKind pg w).pyHash (k := sg c) (strKind_is _ _ _ _) ?_)
    have room : cntN l i + 1 < scanBound := by have := cntN_le l i; omega
    refine wpAny_setAddHashed_of (knd := strKind pg w) (s := { s1 with toks := s1.toks + 1 }) (strKind_is _ _ _ _) rfl S1 room fun h2 sb S2 => ?_
    have S3 : h2.SetOf (strKind pg w) a (inSg l (i + 1)) (cntN l (i + 1)) := SetOf_congr S2 (inSg_step hc2) (cntN_step hc2)
    refine wpAny_pure ⟨plainId_quiet PyProof.Rows.F.plain_set_update_loop _, ih (i + 1) _ (by omega) lt (W.frame _ s1 _ _ st1 (Nat.le_succ _) fun b hb ob g => ?_) S3 fun s2 mv2 S4 => ?_⟩
    · rw [sb.2 b (fun z : b = a => ha (z ▸ hb))]
      exact g
    · refine hR s2 (Moved.trans W.gtrans ((mv.mono sub2).then_heap (Nat.le_succ _) fun b ob hb g => ?_) mv2) S4
      rw [sb.2 b (fun z : b = a => hb (by rw [z]; exact List.mem_cons_self))]
      exact g
end
namespace FF
theorem sub_str_set : isSubtype (.type "str") (.type "set") = pure false := by rw [isSubtype_type]; kernel_rfl
theorem sub_str_fz : isSubtype (.type "str") (.type "frozenset") = pure false := by rw [isSubtype_type]; kernel_rfl
end FF
section
variable {pg : Program} {w : World} {A : Around} {E : Value → Shared → Prop} {s : Shared}
/-- set(text) -/
theorem set_of_text {x : Str} {tk0 : Tok} {Q : Value → Shared → Prop} (hh : A.handled = none) (hb : x.cps.size + 1 < scanBound)
    (h : ∀ (h' : Heap) (tk : Nat), h'.SetOf (strKind pg w) s.heap.objs.size (inSg x.cps.toList x.cps.size) (cntN x.cps.toList x.cps.size) → (∀ b o, s.heap.get? b = some o → h'.get? b = some o) → Q (.ref s.heap.objs.size) { s with heap := h', toks := tk }) :
    wpAny (model pg w) A (call (.type "set") [.str x tk0]) Q E s := by
  obtain ⟨c, tl, hmro⟩ := PySem.F.called_set.mro
  have made := PySem.F.called_set.made
  have subs := PySem.F.called_set.sub
  refine wpAny_call (codeAny_of_tree ?_)
  show wpAny _ _ (callAny (Value.type "set") _) _ _ _
  refine wpAny_pure ⟨Code.quiet_builtin _ (by decide +kernel), codeAny_builtin PySem.F.entry_type_call ?_⟩
  rw [Around.under_plain (weight_type_call_type "set" [.str x tk0] []) rfl]
  have f1 := PySem.F.called_set.notType
  have f2 := PySem.F.called_set.canCreate
  have f3 := PySem.F.typeCall_set_1 (.str x tk0)
  repeat (any_goals (first | assumption | wp_step))
  refine codeAny_mono (code_set_new_1 (.str x tk0) (E := E) (Q₁ := fun ov s1 => ∃ led : Bool, ov = .ref s.heap.objs.size ∧ s1 = { s with heap := s.heap.push { cls := .type "set", dict := none, data := .set #[] 0 (.fresh 0 0 led) } }) fun led => ⟨led, rfl, rfl⟩) fun r s1 hr => ?_
  cases r with
  | error e => exact hr
  | ok fl =>
    cases fl with
    | ret ov =>
      obtain ⟨led, rfl, rfl⟩ := hr
      have g0 : (s.heap.push { cls := .type "set", dict := none, data := .set #[] 0 (.fresh 0 0 led) }).get? s.heap.objs.size = some { cls := .type "set", dict := none, data := .set #[] 0 (.fresh 0 0 led) } := Heap.get?_push_size _ rfl
      have ty0 : Shared.TypeIs { s with heap := s.heap.push { cls := .type "set", dict := none, data := .set #[] 0 (.fresh 0 0 led) } } (.ref s.heap.objs.size) "set" := ⟨_, g0, rfl⟩
      have f4 := PySem.F.called_set.init.lookup
      have f5 := PySem.F.called_set.init.bind (.ref s.heap.objs.size)
      repeat (any_goals (first | assumption | wp_step))
      refine codeAny_mono (codeAny_call_builtin (R := wants (fun r s2 => r = .none ∧ ∃ h' tk, s2 = { s with heap := h', toks := tk } ∧ h'.SetOf (strKind pg w) s.heap.objs.size (inSg x.cps.toList x.cps.size) (cntN x.cps.toList x.cps.size) ∧ (∀ b o, s.heap.get? b = some o → h'.get? b = some o)) E)
        PySem.F.called_set.init.plain PySem.F.entry_set_init (check_set_init_1 ty0 ?_)) fun r2 s2 hr2 => ?_
      · have n1 := FF.sub_str_set
        have n2 := FF.sub_str_fz
        have n3 : (Value.type "str" == Value.type "dict") = false := by decide
        unfold Builtin.«set.__init__» noKeywords Builtin.Frozenset.updateFrom
        generalize hPI : pyIter = PI
        wp_walk
        subst hPI
        refine wpAny_pyIter_str fun ob St W st0 => ?_
        refine wpAny_bind (wpAny_runValue ?_)
        have h3 : A.in1.in1.in1.handled = none := by simp [hh]
        have sz1 : (s.heap.push { cls := .type "set", dict := none, data := .set #[] 0 (.fresh 0 0 led) }).objs.size = s.heap.objs.size + 1 := Heap.size_push ..
        refine lay_signs x.cps.toList rfl (by simp) ((W _ h3).toS) s.heap.objs.size (by rw [Heap.size_push, List.mem_singleton]; exact Nat.ne_of_lt (Nat.lt_succ_self _)) hb (x.cps.size - 0) 0 _ (by omega) (Nat.zero_le _) st0 ?hS0 ?hR
        case hS0 =>
          have g1 : ((s.heap.push { cls := .type "set", dict := none, data := .set #[] 0 (.fresh 0 0 led) }).push ob).get? s.heap.objs.size = some { cls := .type "set", dict := none, data := .set #[] 0 (.fresh 0 0 led) } := Heap.get?_push_of_some _ g0
          exact SetOf_congr ((setObjOf_fresh (knd := strKind pg w) led).setOf g1 (by unfold scanBound; omega)) (fun k => by unfold inSg; simp) rfl
        case hR =>
          intro s2 mv S2
          obtain ⟨h2, gn, dr, tk2, os2⟩ := s2
          have e1 : gn = s.gens := mv.gens
          have e2 : dr = s.drawn := mv.drawn
          have e3 : os2 = s.os := mv.os
          subst e1; subst e2; subst e3
          show wpAny _ _ _ _ _ _
          refine wpAny_pure ?_
          show wpAny _ _ (ret .none) _ _ _
          refine wpAny_pure ⟨rfl, h2, tk2, rfl, S2, fun b o g => ?_⟩
          have lb := Heap.lt_size g
          refine mv.heap b o ?_ (Heap.get?_push_of_some _ (Heap.get?_push_of_some _ g))
          rw [Heap.size_push]
          simp only [List.mem_cons, List.not_mem_nil, or_false, not_or]
          exact ⟨Nat.ne_of_lt lb, Nat.ne_of_lt (Nat.lt_succ_of_lt lb)⟩
      · cases r2 with
        | error e => exact hr2
        | ok fl2 =>
          cases fl2 with
          | ret r =>
            obtain ⟨rfl, h2, tk2, rfl, S2, k2⟩ := hr2
            repeat (any_goals (first | assumption | wp_step))
            exact h _ _ S2 k2
          | _ => exact hr2.elim
    | _ => exact hr.elim
end
/-- how many signs a text has, each kind once -/
def kindsS (x : Str) : Nat := cntN x.cps.toList x.cps.size
def lenSetD : D → Option D
  | .str x => if x.cps.size ≤ 1000 then some (.int (kindsS x)) else none
  | _ => none
theorem cnt_all {l : List Nat} (h : l.Nodup) : ∀ i, i ≤ l.length → cntN l i = i
  | 0, _ => rfl
  | i + 1, hi => by
    have ih := cnt_all h i (by omega)
    have hlt : i < l.length := hi
    unfold cntN
    rw [List.getElem?_eq_getElem hlt]
    show (if l[i] ∈ l.take i then cntN l i else cntN l i + 1) = i + 1
    rw [if_neg, ih]
    intro hm
    obtain ⟨j, hj, e⟩ := List.getElem_of_mem hm
    rw [List.length_take] at hj
    rw [List.getElem_take] at e
    have hji : j < i := by omega
    exact absurd e (List.pairwise_iff_getElem.mp h j i (by omega) hlt hji)
section
variable {X : Cx} {W : WX} {a : Expr} {re : RE} {p p2 q pos : Pos}
theorem dE_lenSet (hc : X.calm = true) (hg : Gl X "len") (hm : X.mg "len" = none) (hg2 : Gl X "set") (hm2 : X.mg "set" = none) (ha : DE X W a re) (na : starEach [a] X.env = (false, eval a X.env) :: starEach [] X.env := by rfl) :
    DE X W (.Call (.Name "len" p) [.Call (.Name "set" p2) [a] [] q] [] pos) (rUn lenSetD re) := by
  refine ⟨fun pins s σ H Q I ⟨B, F, m, ρ, L, t, h⟩ => ?_⟩
  refine Call_ (ld_blt I hg hm boot_len ?_)
  refine callWith_builtin1 (args_cons ?_ rfl) rfl rfl
  refine Call_ (ld_blt I hg2 hm2 boot_set ?_)
  have go := tE_bind (R := fun v H' => ∃ z F' L', v = .str z ∧ z.cps.size ≤ 1000 ∧ Sta X.K B F' m ρ L' σ H' ∧ PostE X.K X.mg B W F' m ρ σ Q (.ok (.int (kindsS z)) L')) B F m ρ L t h fun x L1 v F1 H1 e1 s1 dv q1 => by
    cases dv with
    | str z =>
      have q1 : PostE X.K X.mg B W F1 m ρ σ Q (giveE (if z.cps.size ≤ 1000 then some (.int (kindsS z)) else none) L1) := q1
      by_cases hl : z.cps.size ≤ 1000
      · rw [if_pos hl] at q1
        exact ⟨z, F1, L1, rfl, hl, s1, q1⟩
      · rw [if_neg hl] at q1
        exact q1.elim
    | bl _ => exact q1.elim
    | non => exact q1.elim
    | int _ => exact q1.elim
    | lst _ _ => exact q1.elim
    | tup _ _ => exact q1.elim
  refine callWith_type1 (args_cons (thn (ha.run pins s σ H _ I go) fun v s1 hv => args_nil ?_) na) na rfl
  obtain ⟨_, H1, I1, r1, z, F1, L1, rfl, hl, t1, q1⟩ := hv
  obtain ⟨tz, ev⟩ := r1
  subst ev
  refine set_of_text (I1.ok.hd hc) (by unfold scanBound; omega) fun h2 tk S2 k2 => args_nil ?_
  obtain ⟨ob, es, ep, tb, g, ex, dd, _, _, _, ft, hn⟩ := S2
  have I2 : Inv X pins σ H1 { s1 with heap := h2, toks := tk } := I1.kept k2
  have small := cntN_le z.cps.toList z.cps.size
  refine call_len_set g ex dd ft (by rw [hn] <;> omega) ⟨.int (kindsS z), H1, I2.tok _, ⟨_, by rw [hn] <;> rfl⟩, q1 _ F1 H1 (Same.refl _) t1 (.int _)⟩
end
end Sh
set_option maxRecDepth 100000
set_option maxHeartbeats 4000000
/-! Sh8: exceptions: a pair unpacked while one is handled; several clauses, with and without a name; raise of a class with its own maker. -/
namespace Sh
open PySem L2 PyProof.Rows
section
variable {pg : Program} {w : World} {A : Around} {E : Value → Shared → Prop} {s : Shared}
/-- a tuple's walk ends while an exception is handled -/
theorem hot_end {it t x1 : Addr} {i : Nat} {its : Array Value} {Q : Option Value → Shared → Prop} (hot : HotX.HotAt A x1 s.heap) (ne : x1 ≠ it) (hi : IsTupIter s.heap it t i) (ht : IsTup s.heap t its) (hx : its[i]? = none)
    (hQ : ∀ h', (∀ b o, b ≠ it → s.heap.get? b = some o → h'.get? b = some o) → Q none { s with heap := h' }) : wpAny (model pg w) A (pyNext (.ref it)) Q E s := by
  obtain ⟨hh, o1, vs1, g1, d1, c1⟩ := hot
  obtain ⟨oi, goi, ci, di⟩ := id hi
  obtain ⟨ot, got, _, nt, dt⟩ := ht
  unfold pyNext
  refine wpAny_bind (wpAny_attempt (wpAny_callSpecial?_slot (name := Str.ofString "__next__") hi.typeIs slot_tupleiter_next (wpAny_call_entry slot_tupleiter_next hi.typeIs entry_tupleiter_next ?_ (args_tupleiter_next _))))
  show wpAny _ _ (field (Value.ref it) 0 >>= _) _ _ s
  refine wpAny_bind (wpAny_field goi di (x := .ref t) rfl ?_)
  show wpAny _ _ (if (Value.ref t == .none) = true then _ else _) _ _ s
  rw [if_neg (show ¬ ((Value.ref t == .none) = true) from Bool.false_ne_true)]
  show wpAny _ _ (field (Value.ref it) 1 >>= _) _ _ s
  refine wpAny_bind (wpAny_field goi di (x := .int i 0) rfl ?_)
  show wpAny _ _ (seqItems? (Value.ref t) >>= _) _ _ s
  refine wpAny_bind (wpAny_seqItems got dt ?_)
  simp only [Int.toNat_natCast, hx]
  refine wpAny_bind (wpAny_rule (wpAny_bind (wpAny_setField goi di (by simp) ?_)))
  have g2 : (s.heap.update it (Obj.mapFields fun vs => vs.setIfInBounds 0 Value.none)).get? x1 = some o1 := (Heap.get?_update_other _ _ (Ne.symm ne)).trans g1
  show wpAny _ _ (newExc (Value.type "StopIteration") [] >>= _) _ _ _
  refine wpAny_bind ?_
  simp only [newExc, newTuple]
  refine wpAny_bind (wpAny_newObj_type ?_ (by size_fits))
  refine wpAny_bind (m := firstArgMember _ _) (wpAny_of_eq (a := Value.none) (by first | rfl | (simp only [firstArgMember]; rfl)) ?_)
  refine wpAny_newObj_type ?_ (by size_fits)
  refine HotX.raiseNew_hot ⟨hh, o1, vs1, Heap.get?_push_of_some _ (Heap.get?_push_of_some _ g2), d1, c1⟩ (Nat.ne_of_lt (Heap.lt_size (Heap.get?_push_of_some _ g2))) (Heap.get?_push_size _ rfl) rfl (by first | (simp; done) | (simp; omega) | (simp only [Array.size_append]; simp; omega)) ?_
  refine wpAny_bind (wpAny_isInstance (T := "StopIteration") (b := true) ⟨_, Heap.get?_update_self _ (Heap.get?_push_size _ rfl) rfl, rfl⟩ isSubtype_stop ?_)
  refine wpAny_pure (hQ _ fun b o hb e => ?_)
  have e2 : (s.heap.update it (Obj.mapFields fun vs => vs.setIfInBounds 0 Value.none)).get? b = some o := (Heap.get?_update_other _ _ (Ne.symm hb)).trans e
  rw [Heap.get?_update_other _ _ (Nat.ne_of_gt (Heap.lt_size (Heap.get?_push_of_some _ e2)))]
  exact Heap.get?_push_of_some _ (Heap.get?_push_of_some _ e2)
theorem hot_unpack {t x1 : Addr} {its : Array Value} {Q : List Value → Shared → Prop} (hot : HotX.HotAt A x1 s.heap) (ht : IsTup s.heap t its)
    (hQ : ∀ h', (∀ b o, s.heap.get? b = some o → h'.get? b = some o) → Q its.toList { s with heap := h' }) : wpAny (model pg w) A (unpackItems (.ref t) its.size none) Q E s := by
  have lt : t < s.heap.objs.size := by obtain ⟨o, ho, _⟩ := ht; exact Heap.lt_size ho
  have lx : x1 < s.heap.objs.size := by obtain ⟨_, o, _, ho, _⟩ := hot; exact Heap.lt_size ho
  have net : t ≠ s.heap.objs.size := Nat.ne_of_lt lt
  unfold unpackItems
  refine wpAny_bind ?_
  unfold notIterableAtAll
  refine wpAny_bind (wpAny_specialOf ht.typeIs slot_tuple_iter.lookup ?_)
  refine wpAny_pure ?_
  simp only [Bool.false_eq_true, if_false]
  refine wpAny_bind (wpAny_holding (iter_tuple ht ?_))
  refine wpAny_bind (wpAny_holding (draw_tuple net its.size 0 _ _ ⟨_, Heap.get?_push_size _ rfl, rfl, rfl⟩ (ht.push _) (by omega) fun h1 i1 sb => ?_))
  have whole : (its.toList.drop 0).take its.size = its.toList := by
    rw [List.drop_zero]
    exact List.take_of_length_le (by simp)
  rw [whole, if_neg (by simp)]
  have t1 : IsTup h1 t its := (ht.push _).extBut sb.extBut net
  have hot1 : HotX.HotAt A x1 h1 := by
    obtain ⟨hh, o1, vs1, g1, d1, c1⟩ := hot
    exact ⟨hh, o1, vs1, sb.extBut x1 o1 (Nat.ne_of_lt lx) (Heap.get?_push_of_some _ g1), d1, c1⟩
  refine wpAny_bind (wpAny_holding (hot_end hot1 (Nat.ne_of_lt lx) i1 t1 (by simp) fun h2 k2 => ?_))
  simp only [Option.isSome_none, Bool.false_eq_true, if_false]
  exact wpAny_pure (hQ h2 fun b o e => k2 b o (Nat.ne_of_lt (Heap.lt_size e)) (sb.extBut b o (Nat.ne_of_lt (Heap.lt_size e)) (Heap.get?_push_of_some _ e)))
end
/-- a, b = x, y within an except suite -/
theorem ps_parH {X : Cx} {i j : Nat} {x y : Str} {a b : Expr} {ta : TA} {px py pt pos : Pos} {kt k2 pt2} (hot : L2H.HotC X) (hN : X.N.Nodup) (hi : X.N[i]? = some x) (hj : X.N[j]? = some y) (ne : i ≠ j)
    (hx : X.env.scope.names.lookup x = some .local) (hy : X.env.scope.names.lookup y = some .local) (ha : PA X [a, b] ta)
    (hw : swappedStores [.Tuple [.Name x px, .Name y py] kt pt] (.Tuple [a, b] k2 pt2) X.env = pure (some [x, y]))
    (hs : swapsWithSole [.Tuple [.Name x px, .Name y py] kt pt] (.Tuple [a, b] k2 pt2) pos.line X.env = pure false := by rfl) : PS X (.Assign [.Tuple [.Name x px, .Name y py] kt pt] (.Tuple [a, b] k2 pt2) pos) (tPar i j ta) := by
  refine ⟨fun pins s σ H D I h => ?_⟩
  rw [exec_Assign_arm]
  refine wpAny_bind (wpAny_standAt ?_)
  rw [hs]
  refine wpAny_bind (wpAny_pure ?_)
  rw [if_neg (by decide)]
  refine wpAny_bind (Tuple_ (thn (ha.run _ pins s σ H _ I h) fun us s1 ⟨vs, H1, I1, r1, v, u, ev, q1⟩ => ?_))
  subst ev
  cases r1 with
  | @cons _ u1 _ _ rv rest =>
    cases rest with
    | @cons _ u2 _ _ ru rest =>
      cases rest
      refine wpAny_newObj_type ?_ (by show 2 ≤ sizeLine; decide)
      have I2 : Inv X pins σ H1 { s1 with heap := s1.heap.push { cls := .type "tuple", data := .seq [u1, u2].toArray } } := I1.kept (t' := s1.toks) fun b o e => Heap.get?_push_of_some _ e
      rw [hw]
      refine wpAny_bind (wpAny_pure ?_)
      show wpAny (model X.prog X.w) X.A (do
        rule "assign.swapped-stores"
        let both ← unpackItems (.ref s1.heap.objs.size) 2 none
        assignInOrder [fun v => bindName X.env y v, fun v => bindName X.env x v] both.reverse
        pure Flow.next) _ _ _
      obtain ⟨x1, hot1⟩ := hot.at I2
      refine wpAny_bind (wpAny_rule (wpAny_bind (hot_unpack (its := #[u1, u2]) hot1 (IsTup.new s1.heap _) fun h2 k2 => ?_)))
      have I3 := I2.kept (h' := h2) (t' := s1.toks) k2
      show wpAny _ _ (assignInOrder [fun v => bindName X.env y v, fun v => bindName X.env x v] [u2, u1] >>= fun _ => pure PySem.Flow.next) _ _ _
      refine wpAny_bind (assignInOrder_cons (wpAny_bindName (store_ok I3 hN hj (Or.inl hy) ru (fun s2 I4 => ?_) (Or.inr hy))))
      refine assignInOrder_cons (wpAny_bindName (store_ok I4 hN hi (Or.inl hx) rv (fun s3 I5 => assignInOrder_nil (wpAny_pure ?_)) (Or.inr hx)))
      rw [List.set_comm _ _ (Ne.symm ne)] at I5
      exact ⟨_, H1, I5, q1⟩
/-! ### try with several clauses, each with a name of its own or without -/
def dels (i : Nat) (D : Ends) : Ends := { nx := fun σ' H' => D.nx (σ'.set i none) H', rt := D.rt, bk := fun σ' H' => D.bk (σ'.set i none) H', ct := fun σ' H' => D.ct (σ'.set i none) H' }
structure Hd where
  c : Value
  i : Option Nat
  ts : Addr → Value → Option Addr → TS
def hdWish (D : Ends) (h : Hd) (cls : Value) (d : Option Addr) (σ : L2.St) (H : Hp) : Prop := ∀ a, H a = none → match h.i with
  | none => h.ts a cls d D σ H
  | some i => h.ts a cls d (dels i D) (σ.set i (some (.ref a))) H
def wHds (K : PySem.W.Frag) (Wout : WX) (D : Ends) : List Hd → WX
  | [] => Wout
  | h :: r => fun cls d σ H => ∃ b, PySem.W.exmOne K cls h.c = some b ∧ (b = true → hdWish D h cls d σ H) ∧ (b = false → wHds K Wout D r cls d σ H)
inductive Hds (X : Cx) : List ExceptHandler → List Hd → Prop
  | nil : Hds X [] []
  | bare {x : Str} {c : Value} {ts : Addr → Value → Option Addr → TS} {st : Stmt} {sts : List Stmt} {p1 p2 : Pos} {l : List ExceptHandler} {r : List Hd} (hc : Names X x c)
      (su : ∀ (a : Addr) (oe : Obj) (cls : Value) (d : Option Addr) (pn : List (Addr × Obj)), L2N.Zn cls d oe → (∃ vs, oe.data = .fields vs) → PSs (X.suite a ((a, oe) :: pn)) (st :: sts) (ts a cls d)) (t : Hds X l r) :
      Hds X (.ExceptHandler (some (.Name x p1)) none (st :: sts) p2 :: l) (⟨c, none, ts⟩ :: r)
  | named {x n : Str} {i : Nat} {c : Value} {ts : Addr → Value → Option Addr → TS} {st : Stmt} {sts : List Stmt} {p1 p2 : Pos} {l : List ExceptHandler} {r : List Hd} (hc : Names X x c) (hi : X.N[i]? = some n) (hl : X.env.kindOf n = some .local)
      (su : ∀ (a : Addr) (oe : Obj) (cls : Value) (d : Option Addr) (pn : List (Addr × Obj)), L2N.Zn cls d oe → (∃ vs, oe.data = .fields vs) → PSs (X.suite a ((a, oe) :: pn)) (st :: sts) (ts a cls d)) (t : Hds X l r) :
      Hds X (.ExceptHandler (some (.Name x p1)) (some n) (st :: sts) p2 :: l) (⟨c, some i, ts⟩ :: r)
section
variable {X : Cx} {body : List Stmt} {h0 : ExceptHandler} {hs : List ExceptHandler} {l : List Hd} {pos : Pos} {tb : WX → TS} {Wout : WX}
theorem ps_tries (hst : X.stack = X.env :: X.outer) (hfr0 : X.env.frame = some X.env.locals) (hN : X.N.Nodup) (tk : L2N.Takes X Wout)
    (hb : ∀ (W : WX) (pn : List (Addr × Obj)) (xe : Value → Shared → Prop), L2N.Takes (X.tr pn xe) W → PassesOwn (model X.prog X.w) X.A X.env xe → PSs (X.tr pn xe) body (tb W)) (hh : Hds X (h0 :: hs) l) :
    PS X (.Try body (h0 :: hs) [] [] pos) (fun D σ H => tb (wHds X.K Wout D l) D σ H) := by
  refine ⟨fun pins s σ H D I h => ?_⟩
  have ok := I.ok
  have frames : X.A.frames = some (X.env :: X.outer) := by rw [ok.frames, hst]
  refine wpAny_Try_except ?_
  refine wpAny_mono ((hb (wHds X.K Wout D l) (X.pn ++ pins) (fun e sA => wpAny (model X.prog X.w) X.A (noteFrame e X.env) (fun _ sB => wpAny (model X.prog X.w) X.A (setFlight e none) (fun _ sC => wpAny (model X.prog X.w) X.A (handleBy e X.env (h0 :: hs)) (SP X pins D) X.xe sC) X.xe sB) X.xe sA)
    (fun u sx xx => ?_) PassesOwn.looking).run [] s σ H D (I.toTry _) h) (fun f s1 z => ?_) (fun e s1 z => z)
  · obtain ⟨a, B, sI, pins2, σ2, H2, cls, d, rfl, Jt, nb, up, sky, na, os, ag, w⟩ := xx
    have J : Inv X pins σ2 H2 sI := Jt.ofTry ok
    have sky2 : Sky B (X.env :: X.outer) a (L2N.Zn cls d) X.env.locals sx.heap := by rw [← hst]; exact sky
    show wpAny (model X.prog X.w) X.A (noteFrame (Value.ref a) X.env) _ _ _
    refine L2N.Sky.land L2N.Zn.steady frames hfr0 sky2 fun h3 fl3 up3 => ?_
    have J3 : Inv X pins σ2 H2 { sx with heap := h3 } := J.landed nb fl3.1 (up.trans up3) os ag
    obtain ⟨oe3, vs3, g3, z3, d3⟩ := fl3.there
    have away : a ∉ frs (X.env :: X.outer) := fun hm => by
      obtain ⟨_, oo, eo, nf⟩ := fl3.2.2.1.mem hm
      rw [g3] at eo
      cases eo
      exact nf _ d3
    have awayL : a ≠ X.env.locals := fun z => away (List.mem_filterMap.mpr ⟨X.env, List.mem_cons_self, by rw [hfr0, z]⟩)
    have awayF : a ∉ X.fs := fun hm => by
      obtain ⟨en, hen, q⟩ := List.mem_filterMap.mp hm
      exact away (List.mem_filterMap.mpr ⟨en, List.mem_cons_of_mem _ hen, q⟩)
    have S3 := J3.suite g3 d3 na awayL awayF
    have LT : PySem.W.Looks (model X.prog X.w) h3 (typeOf (.ref a)) cls := fun A Q E s k q => wpAny_typeOf_ref (k _ _ g3) (by rw [z3.1]; exact q)
    -- the class that a clause names
    have named : ∀ {x : Str} {c : Value} {np : Pos} {Q : Value → Shared → Prop} {E : Value → Shared → Prop}, Names X x c → Q c { sx with heap := h3 } → wpAny (model X.prog X.w) (X.A.mark (some (.ref a))) (eval (.Name x np) X.env) Q E { sx with heap := h3 } := by
      intro x c np Q E hc q
      obtain ⟨hg, hdb, hm | ⟨hm, hv, hn⟩⟩ := hc
      · exact ld_glob (X := X.suite a ((a, oe3) :: (X.pn ++ pins))) S3 hg hm q hdb
      · exact ld_blt (X := X.suite a ((a, oe3) :: (X.pn ++ pins))) S3 hg hm hv q hn hdb
    have go : ∀ {hs2 : List ExceptHandler} {l2 : List Hd}, Hds X hs2 l2 → wHds X.K Wout D l2 cls d σ2 H2 → wpAny (model X.prog X.w) X.A (handleBy (.ref a) X.env hs2) (SP X pins D) X.xe { sx with heap := h3 } := by
      intro hs2 l2 hk
      induction hk with
      | nil =>
        intro w
        refine wpAny_handleBy_nil ?_
        obtain ⟨k1, k2, k3, oe, vs, T, oT, ts', he, hz, hd, hone, hr⟩ := id fl3
        unfold PySem.passOn
        refine wpAny_bind (wpAny_field he hd hone ?_)
        rw [if_neg (show ¬ ((Value.ref T == .none) = true) from by simp)]
        have last : wpAny (model X.prog X.w) X.A (setFlight (.ref a) X.env.frame) (fun _ s4 => wpAny (model X.prog X.w) X.A (throw (.ref a) : Sem Flow) (SP X pins D) X.xe s4) X.xe { sx with heap := h3 } := by
          rw [hfr0]
          refine HandSPX.setFlight_upZ fl3 fun h4 held up4 => wpAny_throw (tk _ _ ?_)
          exact ⟨a, B, sI, pins, σ2, H2, cls, d, rfl, J, nb, (up.trans up3).trans up4, Or.inr (Or.inr (by rw [hst]; exact held)), na, os, ag, w⟩
        first
          | exact wpAny_bind (wpAny_pure (wpAny_bind last))
          | exact wpAny_bind last
      | @bare x c ts st sts p1 p2 l3 r3 hc su t ih =>
        intro w
        obtain ⟨b, hb1, yes, no⟩ := w
        refine wpAny_handleBy_cons (codeAny_handlers_test ?_) (by intro q; cases q)
        have LM := PySem.W.exm_one (M := model X.prog X.w) (J3.kIn) LT hb1
        refine named hc (LM.here ?_)
        cases b with
        | false =>
          show wpAny _ X.A (handleBy (Value.ref a) X.env l3) _ _ _
          exact ih (no rfl)
        | true =>
          refine codeAny_handlers_suite ?_
          refine HandSPX.lands_againZ fl3 fun h4 fl4 up4 => ?_
          have J4 : Inv X pins σ2 H2 { sx with heap := h4 } := J.landed nb fl4.1 ((up.trans up3).trans up4) os ag
          obtain ⟨oe4, vs4, g4, z4, d4⟩ := fl4.there
          have S4 := J4.suite g4 d4 na awayL awayF
          refine wpAny_mono ((su a oe4 cls d (X.pn ++ pins) z4 ⟨_, d4⟩).run [] _ _ H2 _ S4 (yes rfl a na)) (fun f s6 z6 => ?_) (fun _ _ z => False.elim z)
          match f, z6 with
          | .next, ⟨σ6, H6, S6, q6⟩ => exact ⟨_, _, S6.unsuite ok, q6⟩
          | .brk, ⟨σ6, H6, S6, q6⟩ => exact ⟨_, _, S6.unsuite ok, q6⟩
          | .cont, ⟨σ6, H6, S6, q6⟩ => exact ⟨_, _, S6.unsuite ok, q6⟩
          | .ret u, ⟨v6, σ6, H6, S6, r6, q6⟩ => exact ⟨_, _, _, S6.unsuite ok, r6, q6⟩
      | @named x n i c ts st sts p1 p2 l3 r3 hc hi hl su t ih =>
        intro w
        obtain ⟨b, hb1, yes, no⟩ := w
        refine wpAny_handleBy_cons (codeAny_handlers_test ?_) (by intro q; cases q)
        have LM := PySem.W.exm_one (M := model X.prog X.w) (J3.kIn) LT hb1
        refine named hc (LM.here ?_)
        cases b with
        | false =>
          show wpAny _ X.A (handleBy (Value.ref a) X.env l3) _ _ _
          exact ih (no rfl)
        | true =>
          refine codeAny_handlers_suite_as ?_
          refine HandSPX.lands_againZ fl3 fun h4 fl4 up4 => ?_
          have J4 : Inv X pins σ2 H2 { sx with heap := h4 } := J.landed nb fl4.1 ((up.trans up3).trans up4) os ag
          obtain ⟨oe4, vs4, g4, z4, d4⟩ := fl4.there
          have S4 := J4.suite g4 d4 na awayL awayF
          refine store_ok (X := X.suite a ((a, oe4) :: (X.pn ++ pins))) (v := .ref a) S4 hN hi (Or.inl hl) rfl (fun s5 S5 => ?_) (Or.inr hl)
          refine wpAny_mono ((su a oe4 cls d (X.pn ++ pins) z4 ⟨_, d4⟩).run [] s5 _ H2 _ S5 (yes rfl a na)) (fun f s6 z6 => ?_) (fun _ _ z => False.elim z)
          have off : ∀ {σ6 : L2.St} {H6 : Hp} {Q : Shared → Prop}, Inv (X.suite a ((a, oe4) :: (X.pn ++ pins))) [] σ6 H6 s6 → (∀ s7, Inv X pins (σ6.set i none) H6 s7 → Q s7) →
              wpAny (model X.prog X.w) X.A (do bindName X.env n .none; unbindBehindTheSuite X.env n p2) (fun _ s7 => Q s7) X.xe s6 := fun {σ6 H6 Q} S6 q => gone_ok (S6.unsuite ok) hN hi hl q
          match f, z6 with
          | .next, ⟨σ6, H6, S6, q6⟩ => exact off S6 fun s7 J7 => ⟨_, _, J7, q6⟩
          | .brk, ⟨σ6, H6, S6, q6⟩ => exact off S6 fun s7 J7 => ⟨_, _, J7, q6⟩
          | .cont, ⟨σ6, H6, S6, q6⟩ => exact off S6 fun s7 J7 => ⟨_, _, J7, q6⟩
          | .ret u, ⟨v6, σ6, H6, S6, r6, q6⟩ => exact off S6 fun s7 J7 => ⟨_, _, _, J7, r6, q6⟩
    exact go hh w
  · match f, z with
    | .next, ⟨σ2, H2, J2, q⟩ => exact wpAny_execs_nil ⟨σ2, H2, J2.ofTry ok, q⟩
    | .brk, ⟨σ2, H2, J2, q⟩ => exact ⟨σ2, H2, J2.ofTry ok, q⟩
    | .cont, ⟨σ2, H2, J2, q⟩ => exact ⟨σ2, H2, J2.ofTry ok, q⟩
    | .ret u, ⟨v, σ2, H2, J2, r, q⟩ => exact ⟨v, σ2, H2, J2.ofTry ok, r, q⟩
end
end Sh
set_option maxRecDepth 100000
set_option maxHeartbeats 4000000
/-! Sh9: raise of a class with its own maker; try over data. -/
namespace Sh
open PySem L2 PyProof.Rows
/-! ### the maker -/
def spInit (K : PySem.W.Frag) (C : Addr) : Sp := fun vs H Q _ => ∃ (a : Addr) (v : V), vs = [.ref a, v] ∧ H a = some (exo a C none) ∧ OexC K C ∧ PySem.W.findIn K (.ref C) "at" = some none ∧
  ∀ dx, H dx = none → dx ≠ a → Q .non (upd (upd H dx (exd dx [(("at" : Str), v)])) a (exo a C (some dx)))
theorem ok_init {P : Program} {w : World} {K : PySem.W.Frag} {mg : Str → Option Value} {base : Heap} {qual : Str} {st : Stmt} {f C : Addr} {fd : FuncData} {p1 p2 p3 p4 : Pos} (F : Fun K "__init__" qual st f fd) (S : FnScope ["self", "at"] ["self", "at"] (defScope st))
    (hb : defBody st = [.Assign [.Attribute (.Name "self" p1) "at" p2] (.Name "at" p3) p4]) (v0 : Vis (defScope st) "self") (v1 : Vis (defScope st) "at") : FnOk P w K mg base CX0 1 f fd ["self", "at"] (spInit K C) := by
  refine F.ok S (fun vs H Q E h => ?_) (fun cdv A outer s H vs Q E hr h => ⟨tOst K "at" (tVar 0) (tVar 1), ?_, ?_⟩)
  · obtain ⟨a, v, rfl, _⟩ := h
    rfl
  · rw [hb]
    exact pss_one (ps_ost (pe_var (i := 0) rfl v0) (pe_var (i := 1) rfl v1))
  · obtain ⟨a, v, rfl, ha, T, hn, q⟩ := h
    exact ⟨v, rfl, .ref a, rfl, a, C, rfl, T, hn, Or.inl ⟨ha, fun dx hd ne => q dx hd ne⟩⟩
section
variable {X : Cx} {W : WX} {e : Expr} {ta : TA} {p pos pos2 : Pos} {x : Str} {C fI : Addr} {k : Nat} {fd : FuncData}
/-- C(e): its maker stores e -/
theorem pmk_at (T : OexC X.K C) (iC : PySem.W.findIn X.K (.ref C) "__init__" = some (some (.ref fI))) (tI : PySem.W.typeIn X.K (.ref fI) = some (.type "function")) (G : FnOk X.prog X.w X.K X.mg X.base CX0 k fI fd ["self", "at"] (spInit X.K C)) (hr : Room (k + 1) X.A) (hb : Binds X.K fd ["self", "at"] [])
    (hg : Gl X x) (hm : X.mg x = some (.ref C)) (ha : PA X [e] ta) (hdb : (x == ("__debug__" : Str)) = false := by decide) (he : starEach (e :: []) X.env = (false, eval e X.env) :: starEach [] X.env := by rfl) (hpl : (backTo pos (starEach [] X.env)).any (·.1) = false := by rfl) :
    L2N.PMk X (.Call (.Name x p) [e] [] pos) (tMkO C (spInit X.K C) [] ta) := by
  intro pins s σ H Q I h
  obtain ⟨nm, qn, N, bs, bm, sn, sub, ab, col, dd, k0, k1, k2, k3, k5, hC, hbm⟩ := T.cls
  refine wpAny_Call_Name_kw (ld_glob I hg hm ?_ hdb)
  refine PySem.W.callWith_K (h₀ := X.base) I.ok.mod.kin T.kC (thn (ha.run pos pins s σ H _ I h) fun us s1 ⟨vs, H1, I1, r1, hz, q1⟩ => ⟨I1.kIn, ?_⟩) he hpl
  show wpAny _ _ (call (Value.ref C) us) _ _ _
  obtain ⟨hp, gs, dr, tk, os⟩ := s1
  have le : hp.objs.size ≤ hp.objs.size + 1 := Nat.le_succ _
  have hq := q1 (hp.objs.size + 1) (I1.hok.fresh le)
  rw [List.append_nil] at hq
  have kp : ∀ b o, hp.get? b = some o → ((hp.push (PySem.W.kdv_tup us)).push (PySem.HandSPX.excO C hp.objs.size)).get? b = some o := fun b o e => Heap.get?_push_of_some _ (Heap.get?_push_of_some _ e)
  have at1 : ((hp.push (PySem.W.kdv_tup us)).push (PySem.HandSPX.excO C hp.objs.size)).get? (hp.objs.size + 1) = some (PySem.HandSPX.excO C hp.objs.size) := by heap_get
  have I2 : Inv X pins σ (upd H1 (hp.objs.size + 1) (exo (hp.objs.size + 1) C none)) ⟨(hp.push (PySem.W.kdv_tup us)).push (PySem.HandSPX.excO C hp.objs.size), gs, dr, tk, os⟩ :=
    I1.laid (t' := tk) (a := hp.objs.size + 1) (o := exo (hp.objs.size + 1) C none) (h' := (hp.push (PySem.W.kdv_tup us)).push (PySem.HandSPX.excO C hp.objs.size)) kp le (exo_ok at1)
  have r2 : Vals (V.ref (hp.objs.size + 1) :: vs) (Value.ref (hp.objs.size + 1) :: us) := .cons rfl r1
  have nl : (Value.ref (hp.objs.size + 1) :: us ++ []).length = (["self", "at"] : List Str).length := by
    have e := r2.length
    rw [G.len _ _ _ _ hq] at e
    rw [List.append_nil]
    exact e.symm
  have few : us.length ≤ sizeLine := by
    rw [← Paired.length r1, sizeLine_eq]
    omega
  have bd := hb _ (Value.ref (hp.objs.size + 1) :: us) I2.kIn nl
  rw [List.append_nil] at bd
  refine wpAny_call (PySem.HandSPX.call_own PySem.F.excBase_ValueError (fun Y => PySem.HandSPX.refsVE_contains Y bm hbm) (I1.kIn _ _ hC) (PySem.W.looks_findIn I1.kIn iC) (fun self => PySem.W.bind_fn I1.kIn self tI) few
    (codeAny_mono (G.run _ X.stack _ _ ⟨Value.ref (hp.objs.size + 1) :: us, []⟩ (Value.ref (hp.objs.size + 1) :: us) _ _ (fun _ _ _ => False) (hr.make C us []) (I2.env0.make C us []) bd r2 hq) fun r s2 z => ?_))
  match r, z with
  | .error er, z => exact False.elim z
  | .ok (.ret u), z =>
    obtain ⟨v, H2, os2, bare, un, hok, rv, ev, d, fs, ea, ed, nd, q2⟩ := z
    subst ev
    obtain ⟨h2, g2, d2, t2, os'⟩ := s2
    obtain ⟨t0, Gh, J, kG, ge, hoe, na⟩ := mk_end0 (d2 := d2) (t2 := t2) I1 le kp un hok os2 bare ea ed nd
    exact ⟨rv, hp.objs.size + 1, _, _, ⟨Gh, g2, d2, t2, os'⟩, _, .ref C, some d, rfl, J, kG, ge, hoe, ⟨rfl, rfl, fun vs hv => by cases hv; rfl⟩, rfl, rfl, na, rfl, bare, raises_own T.exC T.tyC, q2⟩
  | .ok .next, z => exact False.elim z
  | .ok .brk, z => exact False.elim z
  | .ok .cont, z => exact False.elim z
/-- what stands written of the class that the module calls c -/
structure XcT (K : PySem.W.Frag) (mg : Str → Option Value) (P : Program) (w : World) (base : Heap) (c : Str) (C : Addr) : Prop where
  at_ : mg c = some (.ref C)
  o : OexC K C
  xf : XfC K C
  no : PySem.W.findIn K (.ref C) "at" = some none
  ini : ∃ (fI : Addr) (fd : FuncData), PySem.W.findIn K (.ref C) "__init__" = some (some (.ref fI)) ∧ PySem.W.typeIn K (.ref fI) = some (.type "function") ∧ FnOk P w K mg base CX0 1 fI fd ["self", "at"] (spInit K C) ∧ Binds K fd ["self", "at"] []
def rRaise (c : Str) (re : RE) : RS := fun ρ L => bindS (re ρ L) ρ fun d L' => .exc c d ρ L'
theorem dS_raise {re : RE} (hc : X.calm = true) (T : XcT X.K X.mg X.prog X.w X.base x C) (hr : Room 2 X.A) (tk : L2N.Takes X W) (hg : Gl X x) (he : DE X W e re) (hdb : (x == ("__debug__" : Str)) = false := by decide)
    (hs : starEach (e :: []) X.env = (false, eval e X.env) :: starEach [] X.env := by rfl) (hpl : (backTo pos (starEach [] X.env)).any (·.1) = false := by rfl) : DS X W (.Raise (some (.Call (.Name x p) [e] [] pos)) none pos2) (rRaise x re) := by
  obtain ⟨fI, fd, iC, tI, G, hb⟩ := T.ini
  refine ps_imp (L2N.ps_raise hc tk (pmk_at T.o iC tI G hr hb hg T.at_ (pa_cons he pa_nil hs) hdb hs hpl)) fun Dn σ H ⟨B, F, m, ρ, L, s, h⟩ => ?_
  refine tE_S B F m ρ L s h fun d L' v F' H' e' s' dv q => ?_
  have q : ∀ cls dd F2 m2 σ2 H2, Same F' F2 → Sta X.K B F2 m2 ρ L' σ2 H2 → XR X.K X.mg F2 H2 x d cls dd → W cls dd σ2 H2 := q
  refine ⟨Nat.succ_le_succ (Nat.zero_le 999), fun a na => ⟨a, v, rfl, upd_same, T.o, T.no, fun dx hd ne => ⟨rfl, dx, [(("at" : Str), v)], upd_same, ?_, ?_, ?_⟩⟩⟩
  · rw [upd_ne ne, upd_same]
  · rw [upd_ne ne] at hd
    exact hd
  · have hd1 : H' dx = none := by
      rw [upd_ne ne] at hd
      exact hd
    have same : upd (del (upd (upd (upd H' a (exo a C none)) dx (exd dx [(("at" : Str), v)])) a (exo a C (some dx))) a) dx (.xd [(("at" : Str), v)]) = upd H' dx (.xd [(("at" : Str), v)]) := by
      funext b
      by_cases hb1 : b = dx
      · subst hb1
        rw [upd_same, upd_same]
      · rw [upd_ne hb1, upd_ne hb1]
        by_cases hb2 : b = a
        · subst hb2
          rw [del_same, na]
        · rw [del_ne hb2, upd_ne hb2, upd_ne hb1, upd_ne hb2]
    have q1 := q (.ref C) (some dx) F' m σ (upd H' dx (.xd [(("at" : Str), v)])) (Same.refl _) (s'.grow (Grow.real s'.fh (same_upd hd1))) ⟨C, dx, v, T.at_, rfl, rfl, upd_same, dv⟩
    rw [← same] at q1
    exact q1
/-! ### try -/
inductive Cl where
  /-- except k as r: i, j = word, r.at -/
  | nm (k : Str) (r i j : Nat) (word : Str)
  /-- except the base: i = word -/
  | al (k : Str) (i : Nat) (word : Str)
def rHand (kn : List Str) : List Cl → Str → D → RS
  | [], c, d, ρ, L => .exc c d ρ L
  | .nm k r i j w :: l, c, d, ρ, L => if kn.contains c && decide (r < ρ.length) then (if c = k then .next ((((ρ.set r .no).set i (.dat (.str w))).set j (.dat d)).set r .no) L else rHand kn l c d ρ L) else .stuck
  | .al _ i w :: _, c, d, ρ, L => if kn.contains c then .next (ρ.set i (.dat (.str w))) L else .stuck
def rTry (kn : List Str) (rb : RS) (l : List Cl) : RS := fun ρ L => match rb ρ L with
  | .exc c d ρ' L' => rHand kn l c d ρ' L'
  | .next ρ' L' => .next ρ' L'
  | .ret d L' => .ret d L'
  | .brk ρ' L' => .brk ρ' L'
  | .cont ρ' L' => .cont ρ' L'
  | .stuck => .stuck
/-- the clauses, as they stand written -/
inductive ClOn (X : Cx) (kn : List Str) : List ExceptHandler → List Cl → List Hd → Prop
  | nil : ClOn X kn [] [] []
  | nm {k n : Str} {r i j : Nat} {x y word : Str} {C : Addr} {l : List ExceptHandler} {cl : List Cl} {hd : List Hd} {p1 p2 px py pt p3 p4 p5 p6 p7 : Pos} {kt k2 k3 : Nat} (hc : Names X k (.ref C)) (hm : X.mg k = some (.ref C)) (xf : XfC X.K C) (no : PySem.W.findIn X.K (.ref C) "at" = some none)
      (ex : ∀ c ∈ kn, ∀ Cc, X.mg c = some (.ref Cc) → PySem.W.exmOne X.K (.ref Cc) (.ref C) = some (decide (c = k)))
      (hn : X.N[r]? = some n) (hl : X.env.kindOf n = some .local) (vn : Vis X.env.scope n) (dn : (n == ("__debug__" : Str)) = false) (cn : (n == ("__classdict__" : Str)) = false) (hi : X.N[i]? = some x) (hj : X.N[j]? = some y) (ne : i ≠ j) (lx : X.env.scope.names.lookup x = some .local) (ly : X.env.scope.names.lookup y = some .local)
      (hw : swappedStores [.Tuple [.Name x px, .Name y py] kt pt] (.Tuple [.Constant (.str word) k3 p3, .Attribute (.Name n p4) "at" p5] k2 p6) X.env = pure (some [x, y])) (hsw : swapsWithSole [.Tuple [.Name x px, .Name y py] kt pt] (.Tuple [.Constant (.str word) k3 p3, .Attribute (.Name n p4) "at" p5] k2 p6) p7.line X.env = pure false)
      (hb : attributeBase (.Name n p4) "at" X.env (eval (.Name n p4) X.env) = eval (.Name n p4) X.env)
      (hs1 : starEach [.Constant (.str word) k3 p3, .Attribute (.Name n p4) "at" p5] X.env = (false, eval (.Constant (.str word) k3 p3) X.env) :: starEach [.Attribute (.Name n p4) "at" p5] X.env) (hs2 : starEach [.Attribute (.Name n p4) "at" p5] X.env = (false, eval (.Attribute (.Name n p4) "at" p5) X.env) :: starEach [] X.env)
      (t : ClOn X kn l cl hd) : ClOn X kn (.ExceptHandler (some (.Name k p1)) (some n) [.Assign [.Tuple [.Name x px, .Name y py] kt pt] (.Tuple [.Constant (.str word) k3 p3, .Attribute (.Name n p4) "at" p5] k2 p6) p7] p2 :: l)
        (.nm k r i j word :: cl) (⟨.ref C, some r, fun a cls d => tPar i j (tCons (tC (.str word)) (tCons (tXf a cls d C "at" (tVar r)) tNil))⟩ :: hd)
  | al {k : Str} {i : Nat} {x word : Str} {C : Addr} {l : List ExceptHandler} {cl : List Cl} {hd : List Hd} {p1 p2 px p3 p7 : Pos} {k3 : Nat} (hc : Names X k (.ref C)) (ex : ∀ c ∈ kn, ∀ Cc, X.mg c = some (.ref Cc) → PySem.W.exmOne X.K (.ref Cc) (.ref C) = some true)
      (hi : X.N[i]? = some x) (lx : Loc X.env.scope x) (fx : X.fn x = true ∨ X.env.scope.names.lookup x = some .local) (hsw : swapsWith (.Constant (.str word) k3 p3) (some (.Name x px)) p7.line X.env = pure false)
      (t : ClOn X kn l cl hd) : ClOn X kn (.ExceptHandler (some (.Name k p1)) none [.Assign [.Name x px] (.Constant (.str word) k3 p3) p7] p2 :: l)
        (.al k i word :: cl) (⟨.ref C, none, fun a cls d => tAsg (tC (.str word)) (gName i)⟩ :: hd)
end
section
variable {X : Cx} {W : WX} {kn : List Str} {hs : List ExceptHandler} {cl : List Cl} {hd : List Hd}
theorem clOn_hds (hN : X.N.Nodup) (h : ClOn X kn hs cl hd) : Hds X hs hd := by
  induction h with
  | nil => exact .nil
  | @nm k n r i j x y word C l cl hd p1 p2 px py pt p3 p4 p5 p6 p7 kt k2 k3 hc hm xf no ex hn hl vn dn cn hi hj ne lx ly hw hsw hb hs1 hs2 t ih =>
    refine .named hc hn hl (fun a oe cls d pn hz hf => pss_one ?_) ih
    have hot : L2H.HotC (X.suite a ((a, oe) :: pn)) := by
      obtain ⟨vs, hv⟩ := hf
      exact ⟨(a, oe), ⟨rfl, vs, hv, hz.2.2 vs hv⟩, List.mem_cons_self⟩
    exact ps_parH (X := X.suite a ((a, oe) :: pn)) hot hN hi hj ne lx ly (pa_cons pe_str (pa_cons (pe_xf xf no hz.zc hf (pe_var (i := r) hn vn dn cn) hb) pa_nil hs2) hs1) hw hsw
  | @al k i x word C l cl hd p1 p2 px p3 p7 k3 hc ex hi lx fx hsw t ih =>
    exact .bare hc (fun a oe cls d pn hz hf => pss_one (ps_set (X := X.suite a ((a, oe) :: pn)) (i := i) hN hi lx pe_str hsw fx)) ih
theorem clOn_wish {B : Bs} {Dn : Ends} (h : ClOn X kn hs cl hd) : ∀ {c : Str} {d : D} {ρ : En} {L : Sto} {F : Hp} {m : List Addr} {σ : L2.St} {H : Hp} {cls : Value} {dd : Option Addr}, Sta X.K B F m ρ L σ H → XR X.K X.mg F H c d cls dd → PostS X.K X.mg B W F Dn (rHand kn cl c d ρ L) → wHds X.K W Dn hd cls dd σ H := by
  induction h with
  | nil => exact fun {c d ρ L F m σ H cls dd} s x q => q cls dd F m σ H (Same.refl _) s x
  | @nm k n r i j x y word C l cl hd p1 p2 px py pt p3 p4 p5 p6 p7 kt k2 k3 hc hm xf no ex hn hl vn dn cn hi hj ne lx ly hw hsw hb hs1 hs2 t ih =>
    intro c d ρ L F m σ H cls dd s xr q
    have q : PostS X.K X.mg B W F Dn (if kn.contains c && decide (r < ρ.length) then (if c = k then .next ((((ρ.set r .no).set i (.dat (.str word))).set j (.dat d)).set r .no) L else rHand kn cl c d ρ L) else .stuck) := q
    by_cases hk : (kn.contains c && decide (r < ρ.length)) = true
    · rw [if_pos hk] at q
      rw [Bool.and_eq_true] at hk
      have hr : r < ρ.length := of_decide_eq_true hk.2
      have hr2 : r < σ.length := by rw [← paired_len s.sl]; exact hr
      obtain ⟨Cc, a1, v, hmc, ecls, edd, hxd, dv⟩ := id xr
      subst ecls
      subst edd
      refine ⟨_, ex c (by simpa using hk.1) Cc hmc, fun yes a na => ?_, fun no2 => ?_⟩
      · have e : c = k := of_decide_eq_true yes
        rw [if_pos e] at q
        rw [e, hm] at hmc
        cases hmc
        refine ⟨.ref a, by rw [List.getElem?_set_self hr2], rfl, rfl, a1, _, v, rfl, hxd, by simp [List.lookup], _, _, rfl, ?_⟩
        exact q F m _ H (Same.refl _) ((((s.set r (x := .no) (o := some (.ref a)) trivial).set i (x := .dat (.str word)) (o := some (.str word)) (.str _)).set j (x := .dat d) (o := some v) dv).set r (x := .no) (o := none) trivial)
      · have e : ¬ c = k := of_decide_eq_false no2
        rw [if_neg e] at q
        exact ih s xr q
    · rw [if_neg hk] at q
      exact q.elim
  | @al k i x word C l cl hd p1 p2 px p3 p7 k3 hc ex hi lx fx hsw t ih =>
    intro c d ρ L F m σ H cls dd s xr q
    have q : PostS X.K X.mg B W F Dn (if kn.contains c then .next (ρ.set i (.dat (.str word))) L else .stuck) := q
    by_cases hk : kn.contains c = true
    · rw [if_pos hk] at q
      obtain ⟨Cc, a1, v, hmc, ecls, edd, hxd, dv⟩ := id xr
      subst ecls
      refine ⟨true, ex c (by simpa using hk) Cc hmc, fun _ a na => ?_, fun z => Bool.noConfusion z⟩
      exact q F m _ H (Same.refl _) (s.set i (x := .dat (.str word)) (o := some (.str word)) (.str _))
    · rw [if_neg hk] at q
      exact q.elim
theorem dS_try {body : List Stmt} {h0 : ExceptHandler} {pos : Pos} {rb : RS} (hst : X.stack = X.env :: X.outer) (hfr : X.env.frame = some X.env.locals) (hN : X.N.Nodup) (tk : L2N.Takes X W)
    (hb : ∀ (W' : WX) (pn : List (Addr × Obj)) (xe : Value → Shared → Prop), L2N.Takes (X.tr pn xe) W' → PassesOwn (model X.prog X.w) X.A X.env xe → DSs (X.tr pn xe) W' body rb) (hh : ClOn X kn (h0 :: hs) cl hd) : DS X W (.Try body (h0 :: hs) [] [] pos) (rTry kn rb cl) := by
  refine ps_imp (ps_tries (Wout := W) (tb := fun W' => tS X.K X.mg W' rb) hst hfr hN tk hb (clOn_hds hN hh)) fun Dn σ H ⟨B, F, m, ρ, L, s, h⟩ => ⟨B, F, m, ρ, L, s, ?_⟩
  have h : PostS X.K X.mg B W F Dn (match rb ρ L with
    | .exc c d ρ' L' => rHand kn cl c d ρ' L'
    | .next ρ' L' => .next ρ' L'
    | .ret d L' => .ret d L'
    | .brk ρ' L' => .brk ρ' L'
    | .cont ρ' L' => .cont ρ' L'
    | .stuck => .stuck) := h
  cases hr : rb ρ L with
  | stuck => rw [hr] at h; exact h.elim
  | next ρ' L' => rw [hr] at h; exact h
  | ret d L' => rw [hr] at h; exact h
  | brk ρ' L' => rw [hr] at h; exact h
  | cont ρ' L' => rw [hr] at h; exact h
  | exc c d ρ' L' =>
    rw [hr] at h
    exact fun cls dd F' m' σ' H' e s' x => clOn_wish hh s' x (PostS.mono e h)
end
end Sh
set_option maxRecDepth 100000
set_option maxHeartbeats 4000000
/-! Sh10: isinstance, repr, sorted. -/
namespace Sh
open PySem L2 PyProof.Rows
/-! ### isinstance -/
def kindS : D → String
  | .none => "NoneType"
  | .bool _ => "bool"
  | .int _ => "int"
  | .str _ => "str"
  | .list _ => "list"
  | .tuple _ => "tuple"
  | .dict _ => "dict"
def isIntD : D → Bool
  | .int _ => true
  | .bool _ => true
  | _ => false
def isBoolD : D → Bool
  | .bool _ => true
  | _ => false
def isStrD : D → Bool
  | .str _ => true
  | _ => false
def isTupD : D → Bool
  | .tuple _ => true
  | _ => false
def isLstD : D → Bool
  | .list _ => true
  | _ => false
theorem kit_int (d : D) : kitB (kindS d) "int" = some (isIntD d) := by
  cases d with
  | none => exact (by decide +kernel : kitB "NoneType" "int" = some false)
  | bool _ => exact (by decide +kernel : kitB "bool" "int" = some true)
  | int _ => exact (by decide +kernel : kitB "int" "int" = some true)
  | str _ => exact (by decide +kernel : kitB "str" "int" = some false)
  | list _ => exact (by decide +kernel : kitB "list" "int" = some false)
  | tuple _ => exact (by decide +kernel : kitB "tuple" "int" = some false)
  | dict _ => exact (by decide +kernel : kitB "dict" "int" = some false)
theorem kit_bool (d : D) : kitB (kindS d) "bool" = some (isBoolD d) := by
  cases d with
  | none => exact (by decide +kernel : kitB "NoneType" "bool" = some false)
  | bool _ => exact (by decide +kernel : kitB "bool" "bool" = some true)
  | int _ => exact (by decide +kernel : kitB "int" "bool" = some false)
  | str _ => exact (by decide +kernel : kitB "str" "bool" = some false)
  | list _ => exact (by decide +kernel : kitB "list" "bool" = some false)
  | tuple _ => exact (by decide +kernel : kitB "tuple" "bool" = some false)
  | dict _ => exact (by decide +kernel : kitB "dict" "bool" = some false)
theorem kit_str (d : D) : kitB (kindS d) "str" = some (isStrD d) := by
  cases d with
  | none => exact (by decide +kernel : kitB "NoneType" "str" = some false)
  | bool _ => exact (by decide +kernel : kitB "bool" "str" = some false)
  | int _ => exact (by decide +kernel : kitB "int" "str" = some false)
  | str _ => exact (by decide +kernel : kitB "str" "str" = some true)
  | list _ => exact (by decide +kernel : kitB "list" "str" = some false)
  | tuple _ => exact (by decide +kernel : kitB "tuple" "str" = some false)
  | dict _ => exact (by decide +kernel : kitB "dict" "str" = some false)
theorem kit_tup (d : D) : kitB (kindS d) "tuple" = some (isTupD d) := by
  cases d with
  | none => exact (by decide +kernel : kitB "NoneType" "tuple" = some false)
  | bool _ => exact (by decide +kernel : kitB "bool" "tuple" = some false)
  | int _ => exact (by decide +kernel : kitB "int" "tuple" = some false)
  | str _ => exact (by decide +kernel : kitB "str" "tuple" = some false)
  | list _ => exact (by decide +kernel : kitB "list" "tuple" = some false)
  | tuple _ => exact (by decide +kernel : kitB "tuple" "tuple" = some true)
  | dict _ => exact (by decide +kernel : kitB "dict" "tuple" = some false)
theorem kit_lst (d : D) : kitB (kindS d) "list" = some (isLstD d) := by
  cases d with
  | none => exact (by decide +kernel : kitB "NoneType" "list" = some false)
  | bool _ => exact (by decide +kernel : kitB "bool" "list" = some false)
  | int _ => exact (by decide +kernel : kitB "int" "list" = some false)
  | str _ => exact (by decide +kernel : kitB "str" "list" = some false)
  | list _ => exact (by decide +kernel : kitB "list" "list" = some true)
  | tuple _ => exact (by decide +kernel : kitB "tuple" "list" = some false)
  | dict _ => exact (by decide +kernel : kitB "dict" "list" = some false)
theorem ty_of {K : PySem.W.Frag} {H : Hp} {v : V} {d : D} (h : Dp K H v d) : TyX K H v (.type (kindS d)) := by
  cases h with
  | non => exact .base .non
  | bl b => exact .base (.bl b)
  | int i => exact .base (.int i)
  | str x => exact .base (.str x)
  | lst h _ =>
    rcases h with (h | ⟨o, h⟩) | h
    · exact .base (.lst h)
    · exact .base (.frz h)
    · obtain ⟨_, _, _, hk, hc, _⟩ := h
      exact .kList hk hc
  | tup h _ =>
    rcases h with (h | ⟨o, h⟩) | h
    · exact .base (.tup h)
    · exact .fTuple h
    · obtain ⟨_, _, _, hk, hc, _⟩ := h
      exact .kTuple hk hc
def isiD (f : D → Bool) : D → Option D := fun d => some (.bool (f d))
section
variable {X : Cx} {W : WX} {e : Expr} {re : RE} {p p2 p3 pos : Pos} {T : Str} {tn : String} {f : D → Bool}
theorem dE_isi (hk : ∀ d, kitB (kindS d) tn = some (f d)) (hg : Gl X "isinstance") (hm : X.mg "isinstance" = none) (hgT : Gl X T) (hmT : X.mg T = none) (hvT : bootBuiltins T = some (.type tn)) (he : DE X W e re) (hnT : T ≠ "__name__" := by decide) (hdT : (T == ("__debug__" : Str)) = false := by decide)
    (hs1 : starEach [e, .Name T p2] X.env = (false, eval e X.env) :: starEach [.Name T p2] X.env := by rfl) (hs2 : starEach [.Name T p2] X.env = (false, eval (.Name T p2) X.env) :: starEach [] X.env := by rfl) (hpl : (backTo pos (starEach [.Name T p2] X.env)).any (·.1) = false := by rfl) :
    DE X W (.Call (.Name "isinstance" p) [e, .Name T p2] [] pos) (rUn (isiD f) re) := by
  refine pe_imp (pe_callB call_isi hg hm boot_isinstance (pa_cons he (pa_cons (pe_bltn (v := .ty tn) hgT hmT hvT rfl hnT hdT) pa_nil hs2) hs1) (by decide) (by decide) hs1 hpl) fun σ H Q ⟨B, F, m, ρ, L, s, h⟩ => ?_
  refine tE_bind B F m ρ L s h fun d L1 v F1 H1 e1 s1 dv q1 => ?_
  exact ⟨v, .ty tn, .type (kindS d), .type tn, f d, rfl, .ty tn, ty_of (dp_mono s1.fh dv), kit_ty (hk d), q1 (.bl (f d)) F1 H1 (Same.refl _) s1 (.bl _)⟩
theorem dE_isi2 {T2 : Str} {tn2 : String} {f2 : D → Bool} {k : Nat} {p4 : Pos} (hk : ∀ d, kitB (kindS d) tn = some (f d)) (hk2 : ∀ d, kitB (kindS d) tn2 = some (f2 d)) (hg : Gl X "isinstance") (hm : X.mg "isinstance" = none)
    (hgT : Gl X T) (hmT : X.mg T = none) (hvT : bootBuiltins T = some (.type tn)) (hgT2 : Gl X T2) (hmT2 : X.mg T2 = none) (hvT2 : bootBuiltins T2 = some (.type tn2)) (he : DE X W e re)
    (hnT : T ≠ "__name__" := by decide) (hdT : (T == ("__debug__" : Str)) = false := by decide) (hnT2 : T2 ≠ "__name__" := by decide) (hdT2 : (T2 == ("__debug__" : Str)) = false := by decide)
    (hs1 : starEach [e, .Tuple [.Name T p2, .Name T2 p3] k p4] X.env = (false, eval e X.env) :: starEach [.Tuple [.Name T p2, .Name T2 p3] k p4] X.env := by rfl)
    (hs2 : starEach [.Tuple [.Name T p2, .Name T2 p3] k p4] X.env = (false, eval (.Tuple [.Name T p2, .Name T2 p3] k p4) X.env) :: starEach [] X.env := by rfl)
    (hs3 : starEach [.Name T p2, .Name T2 p3] X.env = (false, eval (.Name T p2) X.env) :: starEach [.Name T2 p3] X.env := by rfl) (hs4 : starEach [.Name T2 p3] X.env = (false, eval (.Name T2 p3) X.env) :: starEach [] X.env := by rfl)
    (hpl : (backTo pos (starEach [.Tuple [.Name T p2, .Name T2 p3] k p4] X.env)).any (·.1) = false := by rfl) :
    DE X W (.Call (.Name "isinstance" p) [e, .Tuple [.Name T p2, .Name T2 p3] k p4] [] pos) (rUn (isiD fun d => f d || f2 d) re) := by
  refine pe_imp (pe_callB call_isiT hg hm boot_isinstance (pa_cons he (pa_cons (pe_tup (pa_cons (pe_bltn (v := .ty tn) hgT hmT hvT rfl hnT hdT) (pa_cons (pe_bltn (v := .ty tn2) hgT2 hmT2 hvT2 rfl hnT2 hdT2) pa_nil hs4) hs3)) pa_nil hs2) hs1) (by decide) (by decide) hs1 hpl) fun σ H Q ⟨B, F, m, ρ, L, s, h⟩ => ?_
  refine tE_bind B F m ρ L s h fun d L1 v F1 H1 e1 s1 dv q1 => ?_
  refine ⟨by show 2 ≤ sizeLine; decide, fun p hp => ?_⟩
  have g := Grow.real (H' := upd H1 p (.tup [.ty tn, .ty tn2])) s1.fh (same_upd hp)
  refine ⟨v, p, [.ty tn, .ty tn2], .type (kindS d), [.type tn, .type tn2], f d || f2 d, rfl, upd_same, .cons (.ty tn) (.cons (.ty tn2) .nil), ty_of (dp_mono (s1.fh.trans (same_upd hp)) dv), ?_, q1 (.bl _) F1 _ (Same.refl _) (s1.grow g) (.bl _)⟩
  cases h1 : f d with
  | true => exact kitAny_cons (b := true) (by rw [← h1]; exact kit_ty (hk d)) (fun z => Bool.noConfusion z) (fun _ => rfl)
  | false => exact kitAny_cons (b := false) (by rw [← h1]; exact kit_ty (hk d)) (fun _ => kitAny_cons (b := f2 d) (kit_ty (hk2 d)) (fun z => by rw [z]; exact kitAny_nil) (fun z => by rw [z]; rfl)) (fun z => Bool.noConfusion z)
/-! ### repr -/
def reprD : D → Option D
  | .list ds => if (PyData.list ds).showable && !(PyData.list ds).hasDict && decide ((PyData.list ds).depth ≤ 60) && decide ((PyData.list ds).shown.length ≤ 1000000) then some (.str (PyData.list ds).shown) else none
  | .tuple ds => if (PyData.tuple ds).showable && !(PyData.tuple ds).hasDict && decide ((PyData.tuple ds).depth ≤ 60) && decide ((PyData.tuple ds).shown.length ≤ 1000000) then some (.str (PyData.tuple ds).shown) else none
  | _ => none
theorem repr_at {pins : List (Addr × Obj)} {σ : L2.St} {H : Hp} {s : Shared} {a : Addr} {d : D} {Q : VK} (gd : X.A.guards = some []) (hu : X.A.units + 64 < cLine) (I : Inv X pins σ H s) (h : Dp X.K H (.ref a) d) (ok : (d.showable && !d.hasDict && decide (d.depth ≤ 60) && decide (d.shown.length ≤ 1000000)) = true) (q : Q (.str d.shown) H) :
    wpAny (model X.prog X.w) X.A (call (.builtin "repr") [.ref a]) (EP X pins σ Q) X.xe s := by
  obtain ⟨as, r⟩ := Dp.reads I d (.ref a) (.ref a) h rfl
  rw [Bool.and_eq_true, Bool.and_eq_true, Bool.and_eq_true] at ok
  obtain ⟨⟨⟨o1, o2⟩, o3⟩, o4⟩ := ok
  have o2 : d.hasDict = false := by
    cases z : d.hasDict with
    | false => rfl
    | true => rw [z] at o2; cases o2
  have o3 : d.depth ≤ 60 := of_decide_eq_true o3
  have o4 : d.shown.length ≤ 1000000 := of_decide_eq_true o4
  exact repr_of_reads' r o1 (fun z => by rw [o2] at z; cases z) gd (by omega) (fun _ _ e => e) (fun h' u tk k => ⟨.str d.shown, H, I.kept k, ⟨_, rfl⟩, q⟩) (sz6 o4)
theorem dE_repr (gd : X.A.guards = some []) (hu : X.A.units + 64 < cLine) (hg : Gl X "repr") (hm : X.mg "repr" = none) (he : DE X W e re) (hs : starEach [e] X.env = (false, eval e X.env) :: starEach [] X.env := by rfl) :
    DE X W (.Call (.Name "repr" p) [e] [] pos) (rUn reprD re) := by
  refine pe_imp (pe_callB (r := fun xs H Q => ∃ a d, xs = [.ref a] ∧ Dp X.K H (.ref a) d ∧ (d.showable && !d.hasDict && decide (d.depth ≤ 60) && decide (d.shown.length ≤ 1000000)) = true ∧ Q (.str d.shown) H) (fun pins s σ H xs us Q I r ⟨a, d, ex, hd, ok, q⟩ => ?_) hg hm boot_repr (pa_cons he pa_nil hs) (by decide) (by decide) hs rfl)
    fun σ H Q ⟨B, F, m, ρ, L, s, h⟩ => ?_
  · subst ex
    rw [Vals.ref1 r]
    exact repr_at gd hu I hd ok q
  · refine tE_bind B F m ρ L s h fun d L1 v F1 H1 e1 s1 dv q1 => ?_
    have dh := dp_mono s1.fh dv
    cases d with
    | list ds =>
      cases dv with
      | @lst a xs _ h1 h2 =>
        by_cases ok : ((PyData.list ds).showable && !(PyData.list ds).hasDict && decide ((PyData.list ds).depth ≤ 60) && decide ((PyData.list ds).shown.length ≤ 1000000)) = true
        · have e0 : reprD (.list ds) = some (.str (PyData.list ds).shown) := if_pos ok
          rw [e0] at q1
          exact ⟨a, .list ds, rfl, dh, ok, q1 (.str _) F1 H1 (Same.refl _) s1 (.str _)⟩
        · have e0 : reprD (.list ds) = none := if_neg ok
          rw [e0] at q1
          exact q1.elim
    | tuple ds =>
      cases dv with
      | @tup a xs _ h1 h2 =>
        by_cases ok : ((PyData.tuple ds).showable && !(PyData.tuple ds).hasDict && decide ((PyData.tuple ds).depth ≤ 60) && decide ((PyData.tuple ds).shown.length ≤ 1000000)) = true
        · have e0 : reprD (.tuple ds) = some (.str (PyData.tuple ds).shown) := if_pos ok
          rw [e0] at q1
          exact ⟨a, .tuple ds, rfl, dh, ok, q1 (.str _) F1 H1 (Same.refl _) s1 (.str _)⟩
        · have e0 : reprD (.tuple ds) = none := if_neg ok
          rw [e0] at q1
          exact q1.elim
    | none => exact q1.elim
    | bool _ => exact q1.elim
    | int _ => exact q1.elim
    | str _ => exact q1.elim
    | dict _ => exact q1.elim
end
/-! ### sorted, ints -/
def insI (x : Int) : List Int → List Int
  | [] => [x]
  | y :: l => if x ≤ y then x :: y :: l else y :: insI x l
def sortI : List Int → List Int
  | [] => []
  | x :: l => insI x (sortI l)
theorem insI_perm (x : Int) : ∀ l : List Int, (insI x l).Perm (x :: l)
  | [] => List.Perm.refl _
  | y :: l => by
    unfold insI
    split
    · exact List.Perm.refl _
    · exact ((insI_perm x l).cons y).trans (List.Perm.swap x y l)
theorem sortI_perm : ∀ l : List Int, (sortI l).Perm l
  | [] => List.Perm.refl _
  | x :: l => (insI_perm x (sortI l)).trans ((sortI_perm l).cons x)
theorem insI_sorted (x : Int) : ∀ {l : List Int}, l.Pairwise (· ≤ ·) → (insI x l).Pairwise (· ≤ ·)
  | [], _ => List.pairwise_singleton _ _
  | y :: l, h => by
    unfold insI
    obtain ⟨h1, h2⟩ := List.pairwise_cons.mp h
    split
    · rename_i c
      refine List.pairwise_cons.mpr ⟨fun z hz => ?_, h⟩
      rcases List.mem_cons.mp hz with e | hz
      · rw [e]; exact c
      · exact Int.le_trans c (h1 z hz)
    · rename_i c
      refine List.pairwise_cons.mpr ⟨fun z hz => ?_, insI_sorted x h2⟩
      rcases List.mem_cons.mp ((insI_perm x l).mem_iff.mp hz) with e | hz
      · rw [e]; omega
      · exact h1 z hz
theorem sortI_sorted : ∀ l : List Int, (sortI l).Pairwise (· ≤ ·)
  | [] => List.Pairwise.nil
  | x :: l => insI_sorted x (sortI_sorted l)
theorem sorted_one : ∀ {a b : List Int}, a.Perm b → a.Pairwise (· ≤ ·) → b.Pairwise (· ≤ ·) → a = b
  | [], b, h, _, _ => by
    have := h.length_eq
    cases b with
    | nil => rfl
    | cons _ _ => simp at this
  | x :: a, [], h, _, _ => by
    have := h.length_eq
    simp at this
  | x :: a, y :: b, h, ha, hb => by
    obtain ⟨a1, a2⟩ := List.pairwise_cons.mp ha
    obtain ⟨b1, b2⟩ := List.pairwise_cons.mp hb
    have e : x = y := by
      have h1 : x ∈ y :: b := h.mem_iff.mp List.mem_cons_self
      have h2 : y ∈ x :: a := h.mem_iff.mpr List.mem_cons_self
      rcases List.mem_cons.mp h1 with e | h1
      · exact e
      · rcases List.mem_cons.mp h2 with e | h2
        · exact e.symm
        · have := a1 y h2
          have := b1 x h1
          omega
    subst e
    rw [sorted_one (List.Perm.cons_inv h) a2 b2]
def intsOf : List D → Option (List Int)
  | [] => some []
  | .int i :: r => match intsOf r with
    | some is => some (i :: is)
    | none => none
  | _ :: _ => none
theorem intsOf_ok {K : PySem.W.Frag} {F : Hp} : ∀ {ds : List D} {vs : List V} {is : List Int}, intsOf ds = some is → DpAll K F vs ds → vs = is.map V.int
  | [], _, _, h, .nil => by cases h; rfl
  | .int i :: r, _, is, h, .cons h1 t => by
    have h : (match intsOf r with | some is => some (i :: is) | none => none) = some is := h
    cases hr : intsOf r with
    | none => rw [hr] at h; cases h
    | some js =>
      rw [hr] at h
      cases h
      cases h1
      rw [intsOf_ok hr t]
      rfl
  | .none :: _, _, _, h, _ => by cases h
  | .bool _ :: _, _, _, h, _ => by cases h
  | .str _ :: _, _, _, h, _ => by cases h
  | .list _ :: _, _, _, h, _ => by cases h
  | .tuple _ :: _, _, _, h, _ => by cases h
  | .dict _ :: _, _, _, h, _ => by cases h
def sortedD : List D → Option D
  | [.list ds] => match intsOf ds with
    | some is => some (.list ((sortI is).map PyData.int))
    | none => none
  | _ => none
theorem dpa_ints {K : PySem.W.Frag} {F : Hp} : ∀ is : List Int, DpAll K F (is.map V.int) (is.map PyData.int)
  | [] => .nil
  | i :: is => .cons (.int i) (dpa_ints is)
theorem ok_sorted {K : PySem.W.Frag} : ClOk K sortedD (rSortedI K) := by
  intro F H xs z vs Q h e dx q
  unfold sortedD at h
  split at h
  · rename_i ds
    cases hi : intsOf ds with
    | none => rw [hi] at h; cases h
    | some is =>
      rw [hi] at h
      cases h
      cases dx with
      | cons d1 t =>
        cases t
        cases d1 with
        | @lst a ws _ h1 dd =>
          have ew := intsOf_ok hi dd
          subst ew
          refine ⟨a, is, rfl, e.seq h1, fun ns' p hp ho hn => ?_⟩
          have en : ns' = sortI is := sorted_one (hp.trans (sortI_perm is).symm) ho (sortI_sorted is)
          subst en
          have g := Grow.alloc (o := .lst ((sortI is).map V.int)) e hn
          exact q _ _ _ g (.lst (SqL.of upd_same) (dpa_ints _))
  · cases h
end Sh
set_option maxRecDepth 100000
set_option maxHeartbeats 4000000
/-! Sh11: sorted(set(pairs)); lists handed back to own; two for clauses. -/
namespace Sh
open PySem L2 PyProof.Rows
/-! ### sorted(set(ks)), ks pairs that stand in order already -/
def pairsOf : List D → Option (List (Int × Int))
  | [] => some []
  | .tuple [.int i, .int j] :: r => match pairsOf r with
    | some ps => some ((i, j) :: ps)
    | none => none
  | _ :: _ => none
def smallP (p : Int × Int) : Bool := decide (0 ≤ p.1) && decide (p.1 < 1000) && decide (0 ≤ p.2) && decide (p.2 < 1000)
def pcode (p : Int × Int) : Int := p.1 * 1000 + p.2
def upw : List (Int × Int) → Bool
  | [] => true
  | p :: r => r.all (fun q => decide (pcode p < pcode q)) && upw r
def usetO (ds : List D) : Option (List (Int × Int)) → Option D
  | some ps => if ps.all smallP && upw ps && decide (ps.length < 64) then some (.list ds) else none
  | none => none
def usetD : D → Option D
  | .list ds => usetO ds (pairsOf ds)
  | _ => none
theorem upw_ok : ∀ {ps : List (Int × Int)}, upw ps = true → ps.Pairwise (fun p q => pcode p < pcode q)
  | [], _ => List.Pairwise.nil
  | p :: r, h => by
    unfold upw at h
    rw [Bool.and_eq_true, List.all_eq_true] at h
    exact List.pairwise_cons.mpr ⟨fun q hq => of_decide_eq_true (h.1 q hq), upw_ok h.2⟩
def row2 (p : Int × Int) : List Int := [p.1, p.2]
theorem row2_code (p : Int × Int) : TS.code 1000 (row2 p) = pcode p := by
  show p.1 * 1000 ^ 1 + (p.2 * 1000 ^ 0 + 0) = p.1 * 1000 + p.2
  omega
theorem pairsOf_ok {K : PySem.W.Frag} {F : Hp} : ∀ {ds : List D} {vs : List V} {ps : List (Int × Int)}, pairsOf ds = some ps → DpAll K F vs ds → ∃ ks : List (Addr × List Int), vs = ks.map (fun k => V.ref k.1) ∧ ks.map (·.2) = ps.map row2 ∧ ∀ k ∈ ks, SqT K F k.1 (k.2.map V.int)
  | [], _, _, h, .nil => by
    cases h
    exact ⟨[], rfl, rfl, fun k hk => by cases hk⟩
  | d :: r, _, ps, h, .cons h1 t => by
    cases d with
    | tuple es =>
      match es, h with
      | [.int i, .int j], h =>
        have h : (match pairsOf r with | some ps => some ((i, j) :: ps) | none => none) = some ps := h
        cases hr : pairsOf r with
        | none => rw [hr] at h; cases h
        | some qs =>
          rw [hr] at h
          cases h
          obtain ⟨ks, e1, e2, e3⟩ := pairsOf_ok hr t
          cases h1 with
          | @tup a xs _ hs ha =>
            cases ha with
            | cons a1 ha =>
              cases ha with
              | cons a2 ha =>
                cases ha
                cases a1
                cases a2
                refine ⟨(a, [i, j]) :: ks, by rw [e1]; rfl, by rw [List.map_cons, e2]; rfl, fun k hk => ?_⟩
                rcases List.mem_cons.mp hk with e | hk
                · rw [e]; exact hs
                · exact e3 k hk
    | none => cases h
    | bool _ => cases h
    | int _ => cases h
    | str _ => cases h
    | list _ => cases h
    | dict _ => cases h
theorem same_sorted {α : Type} (f : α → Int) : ∀ {a b : List α}, a.Pairwise (fun x y => f x < f y) → b.Pairwise (fun x y => f x < f y) → (∀ x, x ∈ a ↔ x ∈ b) → a = b
  | [], [], _, _, _ => rfl
  | [], y :: b, _, _, h => by
    have := (h y).mpr List.mem_cons_self
    cases this
  | x :: a, [], _, _, h => by
    have := (h x).mp List.mem_cons_self
    cases this
  | x :: a, y :: b, ha, hb, h => by
    obtain ⟨a1, a2⟩ := List.pairwise_cons.mp ha
    obtain ⟨b1, b2⟩ := List.pairwise_cons.mp hb
    have e : x = y := by
      rcases List.mem_cons.mp ((h x).mp List.mem_cons_self) with e | h1
      · exact e
      · rcases List.mem_cons.mp ((h y).mpr List.mem_cons_self) with e | h2
        · exact e.symm
        · have := a1 y h2
          have := b1 x h1
          omega
    subst e
    rw [same_sorted f a2 b2 fun z => ⟨fun hz => ?_, fun hz => ?_⟩]
    · rcases List.mem_cons.mp ((h z).mp (List.mem_cons_of_mem _ hz)) with e | q
      · have := a1 z hz
        rw [e] at this
        omega
      · exact q
    · rcases List.mem_cons.mp ((h z).mpr (List.mem_cons_of_mem _ hz)) with e | q
      · have := b1 z hz
        rw [e] at this
        omega
      · exact q
section
variable {X : Cx} {W : WX} {a : Expr} {re : RE} {p p2 q pos : Pos}
theorem dE_uset (hc : X.calm = true) (hu : X.A.units + 64 < cLine) (hg : Gl X "sorted") (hm : X.mg "sorted" = none) (hg2 : Gl X "set") (hm2 : X.mg "set" = none) (ha : DE X W a re)
    (hs : starEach [.Call (.Name "set" p2) [a] [] q] X.env = (false, eval (.Call (.Name "set" p2) [a] [] q) X.env) :: starEach [] X.env := by rfl) (hs2 : starEach [a] X.env = (false, eval a X.env) :: starEach [] X.env := by rfl) :
    DE X W (.Call (.Name "sorted" p) [.Call (.Name "set" p2) [a] [] q] [] pos) (rUn usetD re) := by
  refine pe_imp (pe_callB (cr_sortedT hc) hg hm boot_sorted (pa_cons (pe_callTy (cr_setOfT hc hu) hg2 hm2 boot_set (pa_cons ha pa_nil hs2) (by decide) (by decide) hs2 rfl) pa_nil hs) (by decide) (by decide) hs rfl) fun σ H Q ⟨B, F, m, ρ, L, s, h⟩ => ?_
  refine tE_bind B F m ρ L s h fun d L1 v F1 H1 e1 s1 dv q1 => ?_
  cases d with
  | list ds =>
    cases dv with
    | @lst l xs _ h1 dd =>
      cases hp : pairsOf ds with
      | none =>
        rw [show usetD (.list ds) = usetO ds (pairsOf ds) from rfl, hp] at q1
        exact q1.elim
      | some ps =>
        by_cases ok : (ps.all smallP && upw ps && decide (ps.length < 64)) = true
        · rw [show usetD (.list ds) = usetO ds (pairsOf ds) from rfl, hp, show usetO ds (some ps) = some (.list ds) from if_pos ok] at q1
          have q1 : PostE X.K X.mg B W F1 m ρ σ Q (.ok (.list ds) L1) := q1
          rw [Bool.and_eq_true, Bool.and_eq_true] at ok
          obtain ⟨⟨o1, o2⟩, o3⟩ := ok
          have o3 : ps.length < 64 := of_decide_eq_true o3
          obtain ⟨ks, ex, ek, et⟩ := pairsOf_ok hp (dpa_mono s1.fh dd)
          have lk : ks.length = ps.length := by
            have := congrArg List.length ek
            rw [List.length_map, List.length_map] at this
            exact this
          have inc : ks.Pairwise (fun k k' => TS.code 1000 k.2 < TS.code 1000 k'.2) := by
            have z : (ks.map (·.2)).Pairwise (fun x y => TS.code 1000 x < TS.code 1000 y) := by
              rw [ek, List.pairwise_map]
              refine List.Pairwise.imp (fun {x y} hxy => ?_) (upw_ok o2)
              rw [row2_code, row2_code]
              exact hxy
            rw [List.pairwise_map] at z
            exact z
          have inj : ∀ k ∈ ks, ∀ k' ∈ ks, TS.code 1000 k.2 = TS.code 1000 k'.2 → k = k' := by
            have gen : ∀ {l : List (Addr × List Int)}, l.Pairwise (fun k k' => TS.code 1000 k.2 < TS.code 1000 k'.2) → ∀ k ∈ l, ∀ k' ∈ l, TS.code 1000 k.2 = TS.code 1000 k'.2 → k = k' := by
              intro l hl
              induction l with
              | nil => intro k hk; cases hk
              | cons x l ih =>
                obtain ⟨h1, h2⟩ := List.pairwise_cons.mp hl
                intro k hk k' hk' e
                rcases List.mem_cons.mp hk with e1 | hk <;> rcases List.mem_cons.mp hk' with e2 | hk'
                · rw [e1, e2]
                · have := h1 k' hk'
                  rw [e1] at e
                  omega
                · have := h1 k hk
                  rw [e2] at e
                  omega
                · exact ih h2 k hk k' hk' e
            exact gen inc
          have bd : ∀ k ∈ ks, k.2.length = 2 ∧ TS.Bd 1000 k.2 := by
            intro k hk
            have hm : k.2 ∈ ps.map row2 := by
              rw [← ek]
              exact List.mem_map_of_mem hk
            obtain ⟨pp, hpp, e⟩ := List.mem_map.mp hm
            rw [← e]
            have sm := List.all_eq_true.mp o1 pp hpp
            unfold smallP at sm
            rw [Bool.and_eq_true, Bool.and_eq_true, Bool.and_eq_true] at sm
            obtain ⟨⟨⟨b1, b2⟩, b3⟩, b4⟩ := sm
            refine ⟨rfl, fun z hz => ?_⟩
            have hz : z ∈ [pp.1, pp.2] := hz
            rcases List.mem_cons.mp hz with e | hz
            · rw [e]; exact ⟨of_decide_eq_true b1, of_decide_eq_true b2⟩
            · rcases List.mem_cons.mp hz with e | hz
              · rw [e]; exact ⟨of_decide_eq_true b3, of_decide_eq_true b4⟩
              · cases hz
          refine ⟨l, ks, rfl, by rw [← ex]; exact s1.fh.seq h1, et, by omega, fun sA Lst hn sub all => ?_⟩
          have g1 := Grow.real (H' := upd H1 sA (SetTO X.prog X.w sA Lst)) s1.fh (same_upd hn)
          refine ⟨sA, Lst, 2, 1000, rfl, upd_same, fun k hk => seqT g1.hh (et k (sub k hk)), by decide, fun k hk => bd k (sub k hk), fun L' pp pm nd few srt hp2 => ?_⟩
          have eq : L' = ks := by
            refine same_sorted (fun k => TS.code 1000 k.2) ?_ inc fun k => ⟨fun hk => sub k (pm.mem_iff.mp hk), fun hk => ?_⟩
            · rw [List.Nodup, List.pairwise_map] at nd
              refine List.Pairwise.imp_of_mem (fun {k k'} hk hk' hh => ?_) (List.pairwise_and_iff.mpr ⟨srt, nd⟩)
              have hle : TS.code 1000 k.2 ≤ TS.code 1000 k'.2 := hh.1
              have hne : k.2 ≠ k'.2 := hh.2
              rcases Int.lt_or_eq_of_le hle with z | z
              · exact z
              · exact absurd (congrArg (·.2) (inj k (sub k (pm.mem_iff.mp hk)) k' (sub k' (pm.mem_iff.mp hk')) z)) hne
            · obtain ⟨k', hk', e⟩ := List.mem_map.mp (all k hk)
              have : k' = k := inj k' (sub k' hk') k hk (by rw [e])
              rw [← this]
              exact pm.mem_iff.mpr hk'
          subst eq
          rw [← ex]
          have s2 := s1.grow g1
          have g2 := Grow.alloc (o := .lst xs) s2.fh hp2
          exact q1 _ _ _ g2.ff (s2.grow g2) (.lst (SqL.of upd_same) (dpa_mono g2.ff dd))
        · rw [show usetD (.list ds) = usetO ds (pairsOf ds) from rfl, hp, show usetO ds (some ps) = none from if_neg ok] at q1
          exact q1.elim
  | none => exact q1.elim
  | bool _ => exact q1.elim
  | int _ => exact q1.elim
  | str _ => exact q1.elim
  | tuple _ => exact q1.elim
  | dict _ => exact q1.elim
end
/-! ### x = y + [..], y own -/
def rOwnCat (i j : Nat) (ra : RA) : RS := fun ρ L => match ρ[j]? with
  | some (.own k) => bindSA (ra ρ L) ρ (fun sls L' => match allDat sls with
    | some es => (match L'[k]? with
      | some (some ds) => if ds.length + es.length ≤ 1000 then .next (ρ.set i (.own L'.length)) (L' ++ [some (ds ++ es)]) else .stuck
      | _ => .stuck)
    | none => .stuck)
  | _ => .stuck
section
variable {X : Cx} {W : WX} {es : List Expr} {ra : RA} {pos pl pb py px : Pos} {x y : Str}
theorem dS_ownCat {i j : Nat} (hN : X.N.Nodup) (hi : X.N[i]? = some x) (hx : Loc X.env.scope x) (hj : X.N[j]? = some y) (he : DA X W es ra) (hv : Vis X.env.scope y := by first | exact Or.inl rfl | exact Or.inr (Or.inl rfl) | exact Or.inr (Or.inr rfl)) (hd : (y == ("__debug__" : Str)) = false := by decide)
    (hcd : (y == ("__classdict__" : Str)) = false := by decide) (hs : swapsWith (.BinOp (.Name y py) .Add (.List es pl) pb) (some (.Name x px)) pos.line X.env = pure false := by rfl)
    (hf : X.fn x = true ∨ X.env.scope.names.lookup x = some .local := by first | exact .inl rfl | exact .inr rfl | assumption) : DS X W (.Assign [.Name x px] (.BinOp (.Name y py) .Add (.List es pl) pb) pos) (rOwnCat i j ra) := by
  refine ps_imp (ps_set (i := i) hN hi hx (pe_op op_catQ (pe_var (i := j) hj hv hd hcd) (pe_lst he)) hs hf) fun Dn σ H ⟨B, F, m, ρ, L, s, h⟩ => ?_
  have h : PostS X.K X.mg B W F Dn (match ρ[j]? with
    | some (.own k) => bindSA (ra ρ L) ρ (fun sls L' => match allDat sls with
      | some es => (match L'[k]? with
        | some (some ds) => if ds.length + es.length ≤ 1000 then .next (ρ.set i (.own L'.length)) (L' ++ [some (ds ++ es)]) else .stuck
        | _ => .stuck)
      | none => .stuck)
    | _ => .stuck) := h
  cases hr : ρ[j]? with
  | none => rw [hr] at h; exact h.elim
  | some sl =>
    cases sl with
    | no => rw [hr] at h; exact h.elim
    | dat d => rw [hr] at h; exact h.elim
    | own k =>
      rw [hr] at h
      obtain ⟨a, ha, ho⟩ := own_at s hr
      refine ⟨.ref a, ho, ?_⟩
      refine tA_S B F m ρ L s h fun sls L' vs F' H' e s' dv q => ?_
      cases hd2 : allDat sls with
      | none => simp only [hd2] at q; exact q.elim
      | some es =>
        simp only [hd2] at q
        cases hk : L'[k]? with
        | none => simp only [hk] at q; exact q.elim
        | some o =>
          cases o with
          | none => simp only [hk] at q; exact q.elim
          | some ds =>
            simp only [hk] at q
            have dd := allDat_ok hd2 dv
            obtain ⟨_, ws, hw, hdw⟩ := s'.ow k a ds ha hk
            by_cases hl : ds.length + es.length ≤ 1000
            · rw [if_pos hl] at q
              refine ⟨by rw [dpa_len dd]; exact le_sz (by omega), fun p hp => ?_⟩
              have g := Grow.real (H' := upd H' p (.lst vs)) s'.fh (same_upd hp)
              have s2 := s'.grow g
              refine ⟨a, p, ws, vs, rfl, rfl, SqL.of (g.hh _ _ hw), SqL.of upd_same, by rw [dpa_len dd, dpa_len hdw]; exact le_sz hl, fun p2 hp2 => ?_⟩
              have s3 := s2.push hp2 (dpa_app hdw dd)
              refine q F' _ _ _ (Same.refl _) (s3.set i (show SlO X.K F' (m ++ [p2]) (.own L'.length) (some (.ref p2)) from ⟨p2, ?_, rfl⟩))
              rw [← s'.ml, List.getElem?_append_right (Nat.le_refl _), Nat.sub_self]
              rfl
            · rw [if_neg hl] at q
              exact q.elim
end
/-! ### a def that ends with «return [..]»: the list is its caller's own -/
abbrev RFO := List Sl → Sto → ResA
def rPre (N : Nat) (pre : RS) (ra : RA) : RFO := fun sls L => match pre (sls ++ List.replicate (N - sls.length) .no) L with
  | .next ρ' L' => ra ρ' L'
  | _ => .stuck
def spOwn (K : PySem.W.Frag) (n : Nat) (r : RFO) : Sp := fun vs H Q _ => ∃ F m sls L, sls.length = n ∧ Sta K ⟨F, m, H⟩ F m sls L (vs.map some) H ∧ match r sls L with
  | .ok items L' => ∃ ds, allDat items = some ds ∧ ds.length ≤ 1000 ∧ ∀ p ws F' m' ρ' σ' H', Same F F' → Sta K ⟨F, m, H⟩ F' m' ρ' L' σ' H' → DpAll K F' ws ds → H' p = none → Q (.ref p) (upd H' p (.lst ws))
  | _ => False
def rOwnCall (i n : Nat) (f : RFO) (ra : RA) : RS := fun ρ L => bindSA (ra ρ L) ρ fun sls L1 => if sls.length = n then (match f sls L1 with
  | .ok items L2 => (match allDat items with
    | some ds => if ds.length ≤ 1000 then .next (ρ.set i (.own L1.length)) (L2.take L1.length ++ [some ds]) else .stuck
    | none => .stuck)
  | _ => .stuck) else .stuck
theorem own_ok {P : Program} {w : World} {K : PySem.W.Frag} {mg : Str → Option Value} {base : Heap} {x qual : Str} {st : Stmt} {f : Addr} {fd : FuncData} {ps : List Str} {k : Nat} {N : List Str} {pre : RS} {ra : RA} (F : Fun K x qual st f fd) (S : FnScope N ps (defScope st))
    (hbody : ∀ (cdv : Value) (A : Around) (outer : List Env) (s : Shared) (H : Hp) (E : XK), Room k (A.deeper (envOfC qual (defScope st) s.heap.objs.size f cdv)) → A.guards = some [] →
      PSs (cxOf (L2N.CX P w) P w K mg base N qual (defScope st) f cdv A outer s H E) (defBody st) (tSeq (tS K mg WF pre) (tRet (tLst (tA K mg WF ra))))) : FnG P w K mg base (k + 1) f fd ps (spOwn K ps.length (rPre N.length pre ra)) := by
  refine fn_G F S (fun vs H Q E ⟨F, m, sls, L, hn, s, _⟩ => ?_) fun cdv A outer s H vs Q E hr gd ⟨F, m, sls, L, hn, t, q⟩ => ⟨_, hbody cdv A outer s H E hr gd, ?_⟩
  · have := paired_len s.sl
    rw [List.length_map] at this
    omega
  · have hl : sls.length = vs.length := by
      have := paired_len t.sl
      rw [List.length_map] at this
      exact this
    have t2 : Sta K ⟨F, m, H⟩ F m (sls ++ List.replicate (N.length - sls.length) .no) L (start N vs) H := by
      refine t.slots (paired_app t.sl ?_)
      rw [hl]
      exact paired_rep (a := Sl.no) (b := none) trivial _
    refine ⟨⟨F, m, H⟩, F, m, _, L, t2, ?_⟩
    have q : match (match pre (sls ++ List.replicate (N.length - sls.length) .no) L with | .next ρ' L' => ra ρ' L' | _ => .stuck : ResA) with
      | .ok items L' => ∃ ds, allDat items = some ds ∧ ds.length ≤ 1000 ∧ ∀ p ws F' m' ρ' σ' H', Same F F' → Sta K ⟨F, m, H⟩ F' m' ρ' L' σ' H' → DpAll K F' ws ds → H' p = none → Q (.ref p) (upd H' p (.lst ws))
      | _ => False := q
    cases hr : pre (sls ++ List.replicate (N.length - sls.length) .no) L with
    | stuck => rw [hr] at q; exact q.elim
    | brk _ _ => rw [hr] at q; exact q.elim
    | cont _ _ => rw [hr] at q; exact q.elim
    | ret _ _ => rw [hr] at q; exact q.elim
    | exc _ _ _ _ => rw [hr] at q; exact q.elim
    | next ρ' L' =>
      rw [hr] at q
      intro F' m' σ' H' e s'
      refine ⟨⟨F, m, H⟩, F', m', ρ', L', s', ?_⟩
      have q : match ra ρ' L' with
        | .ok items L' => ∃ ds, allDat items = some ds ∧ ds.length ≤ 1000 ∧ ∀ p ws F' m' ρ' σ' H', Same F F' → Sta K ⟨F, m, H⟩ F' m' ρ' L' σ' H' → DpAll K F' ws ds → H' p = none → Q (.ref p) (upd H' p (.lst ws))
        | _ => False := q
      cases ha : ra ρ' L' with
      | stuck => rw [ha] at q; exact q.elim
      | exc _ _ _ => rw [ha] at q; exact q.elim
      | ok items L2 =>
        rw [ha] at q
        obtain ⟨ds, hd, hlen, q⟩ := q
        intro vs2 F2 H2 e2 s2 dv
        have dd := allDat_ok hd dv
        exact ⟨by rw [dpa_len dd]; exact le_sz hlen, fun p hp => q p vs2 F2 m' ρ' σ' H2 (e.trans e2) s2 dd hp⟩
section
variable {X : Cx} {W : WX} {k : Nat} {f : Addr} {fd : FuncData} {ps : List Str} {r : RFO} {x y : Str} {p pos pos' px : Pos} {e : Expr} {es : List Expr} {ra : RA} {i : Nat}
theorem dS_ownCall (hN : X.N.Nodup) (hi : X.N[i]? = some y) (hy : Loc X.env.scope y) (G : FnG X.prog X.w X.K X.mg X.base k f fd ps (spOwn X.K ps.length r)) (hr : Room k X.A) (gd : X.A.guards = some []) (hg : Gl X x) (hm : X.mg x = some (.ref f)) (hk : PySem.W.keepIn X.K (.ref f) = true) (hb : Binds X.K fd ps []) (tk : L2N.Takes X W) (ha : DA X W (e :: es) ra)
    (hdb : (x == ("__debug__" : Str)) = false := by decide) (he : starEach (e :: es) X.env = (false, eval e X.env) :: starEach es X.env := by rfl) (hpl : (backTo pos (starEach es X.env)).any (·.1) = false := by rfl)
    (hs : swapsWith (.Call (.Name x p) (e :: es) [] pos) (some (.Name y px)) pos'.line X.env = pure false := by rfl) (hf : X.fn y = true ∨ X.env.scope.names.lookup y = some .local := by first | exact .inl rfl | exact .inr rfl | assumption) :
    DS X W (.Assign [.Name y px] (.Call (.Name x p) (e :: es) [] pos) pos') (rOwnCall i ps.length r ra) := by
  refine ps_imp (ps_set (i := i) hN hi hy (pe_G (E := WE W) G hr gd hg hm hk hb (fun σ => L2N.passAt tk σ) ha hdb he hpl) hs hf) fun Dn σ H ⟨B, F, m, ρ, L, s, h⟩ => ?_
  refine tA_S B F m ρ L s h fun sls L1 vs F1 H1 e1 s1 dv q => ?_
  by_cases hn : sls.length = ps.length
  · rw [if_pos hn] at q
    refine ⟨F1, m, sls, L1, hn, s1.base.slots (paired_map (fun _ _ h => SlO.of h) dv), ?_⟩
    cases hr2 : r sls L1 with
    | stuck => rw [hr2] at q; exact q.elim
    | exc _ _ _ => rw [hr2] at q; exact q.elim
    | ok items L2 =>
      rw [hr2] at q
      cases hd : allDat items with
      | none => simp only [hd] at q; exact q.elim
      | some ds =>
        simp only [hd] at q
        by_cases hl : ds.length ≤ 1000
        · rw [if_pos hl] at q
          refine ⟨ds, hd, hl, fun p2 ws F' m' ρ' σ' H' e t dd hp => ?_⟩
          have c := s1.cut t
          have s3 := c.push hp dd
          refine q F' _ _ _ e (s3.set i (show SlO X.K F' (m ++ [p2]) (.own L1.length) (some (.ref p2)) from ⟨p2, ?_, rfl⟩))
          rw [← s1.ml, List.getElem?_append_right (Nat.le_refl _), Nat.sub_self]
          rfl
        · rw [if_neg hl] at q
          exact q.elim
  · rw [if_neg hn] at q
    exact q.elim
end
end Sh
set_option maxRecDepth 100000
set_option maxHeartbeats 4000000
/-! Sh12: two for clauses; the law's end. -/
namespace Sh
open PySem L2 PyProof.Rows
theorem compD_or {g : RG} {tt te : RE} {ρ : En} : ∀ (ds : List D) (L : Sto), (∃ ys L3, compD g tt te ρ ds L = .ok (.list ys) L3) ∨ compD g tt te ρ ds L = .stuck := by
  intro ds
  induction ds with
  | nil => exact fun L => Or.inl ⟨[], L, rfl⟩
  | cons d ds ih =>
    intro L
    unfold compD
    cases hg : g d ρ with
    | none => exact Or.inr rfl
    | some ρ1 =>
      show (∃ ys L3, bindN (tt ρ1 L) _ = _) ∨ bindN (tt ρ1 L) _ = _
      cases ht : tt ρ1 L with
      | stuck => exact Or.inr rfl
      | exc _ _ _ => exact Or.inr rfl
      | ok b L1 =>
        cases b with
        | bool k =>
          cases k with
          | false => exact ih L1
          | true =>
            show (∃ ys L3, bindN (te ρ1 L1) _ = _) ∨ bindN (te ρ1 L1) _ = _
            cases hy : te ρ1 L1 with
            | stuck => exact Or.inr rfl
            | exc _ _ _ => exact Or.inr rfl
            | ok y L2 =>
              show (∃ ys L3, consL y _ = _) ∨ consL y _ = _
              rcases ih L2 with ⟨ys, L3, e⟩ | e
              · exact Or.inl ⟨y :: ys, L3, by rw [e]; rfl⟩
              · exact Or.inr (by rw [e]; rfl)
        | none => exact Or.inr rfl
        | int _ => exact Or.inr rfl
        | str _ => exact Or.inr rfl
        | list _ => exact Or.inr rfl
        | tuple _ => exact Or.inr rfl
        | dict _ => exact Or.inr rfl
def appL (ys : List D) (r : Res) : Res := match r with
  | .ok (.list zs) L => .ok (.list (ys ++ zs)) L
  | _ => .stuck
def bindL' (r : Res) (k : List D → Sto → Res) : Res := match r with
  | .ok (.list ys) L => k ys L
  | _ => .stuck
def bindIN (a : ResI) (k : List D → Sto → Res) : Res := match a with
  | .ok ds L => if ds.length ≤ 1000 then k ds L else .stuck
  | _ => .stuck
/-- no tests -/
def compD2 (g : RG) (ri1 : RI) (g1 : RG) (te : RE) (vs1 : List Nat) (ρ : En) : List D → Sto → Res
  | [], L => .ok (.list []) L
  | d :: ds, L => match g d ρ with
    | none => .stuck
    | some ρ1 => bindIN (ri1 ρ1 L) fun es L1 => bindL' (compD g1 (rC (.bool true)) te (wipeE ρ1 vs1) es L1) fun ys L2 => appL ys (compD2 g ri1 g1 te vs1 ρ ds L2)
theorem compD2_or {g : RG} {ri1 : RI} {g1 : RG} {te : RE} {vs1 : List Nat} {ρ : En} : ∀ (ds : List D) (L : Sto), (∃ ys L3, compD2 g ri1 g1 te vs1 ρ ds L = .ok (.list ys) L3) ∨ compD2 g ri1 g1 te vs1 ρ ds L = .stuck := by
  intro ds
  induction ds with
  | nil => exact fun L => Or.inl ⟨[], L, rfl⟩
  | cons d ds ih =>
    intro L
    unfold compD2
    cases hg : g d ρ with
    | none => exact Or.inr rfl
    | some ρ1 =>
      show (∃ ys L3, bindIN (ri1 ρ1 L) _ = _) ∨ bindIN (ri1 ρ1 L) _ = _
      cases hi : ri1 ρ1 L with
      | stuck => exact Or.inr rfl
      | exc _ _ _ => exact Or.inr rfl
      | ok es L1 =>
        show (∃ ys L3, (if es.length ≤ 1000 then _ else _) = _) ∨ (if es.length ≤ 1000 then _ else _) = _
        by_cases hl : es.length ≤ 1000
        · rw [if_pos hl]
          rcases compD_or (g := g1) (tt := rC (.bool true)) (te := te) (ρ := wipeE ρ1 vs1) es L1 with ⟨ys, L2, e⟩ | e
          · rw [e]
            show (∃ zs L3, appL ys _ = _) ∨ appL ys _ = _
            rcases ih L2 with ⟨zs, L3, e2⟩ | e2
            · exact Or.inl ⟨ys ++ zs, L3, by rw [e2]; rfl⟩
            · exact Or.inr (by rw [e2]; rfl)
          · rw [e]
            exact Or.inr rfl
        · rw [if_neg hl]
          exact Or.inr rfl
def rComp2 (ri : RI) (g : RG) (vs : List Nat) (ri1 : RI) (g1 : RG) (vs1 : List Nat) (te : RE) : RE := fun ρ L => match ri ρ L with
  | .stuck => .stuck
  | .exc c d L' => .exc c d L'
  | .ok ds L' => if ds.length ≤ 1000 then compD2 g ri1 g1 te vs1 (wipeE ρ vs) ds L' else .stuck
section
variable {K : PySem.W.Frag} {mg : Str → Option Value} {B : Bs} {F F' : Hp} {m : List Addr} {ρ : En} {L : Sto} {σ : L2.St} {H : Hp}
theorem wipe_back {σ σ2 : L2.St} {vs ts : List Nat} (hts : ∀ i ∈ ts, i ∈ vs) (off : Off ts (wipe σ vs) σ2) : wipe σ2 vs = wipe σ vs := by
  refine (off vs hts).trans ?_
  apply List.ext_getElem?
  intro j
  rw [wipe_at]
  by_cases hj : j ∈ vs ∧ j < (wipe σ vs).length
  · rw [if_pos hj, wipe_at, if_pos ⟨hj.1, by rw [wipe_length] at hj; exact hj.2⟩]
  · rw [if_neg hj]
/-- an accumulator beside the frozen heap -/
structure Acc (F H : Hp) (m : List Addr) (B : Bs) (Dl : Addr) (acc : List V) (accD : List D) (K : PySem.W.Frag) (n : Nat) : Prop where
  nf : F Dl = none
  at_ : H Dl = some (.lst acc)
  nm : Dl ∉ m
  nb : B.H Dl = none
  dd : DpAll K F acc accD
  few : acc.length ≤ n
theorem comp2_go {W : WX} {ri ri1 : RI} {g g1 : RG} {ts vs ts1 vs1 : List Nat} {te : RE} {Q : VK} (hts : ∀ i ∈ ts, i ∈ vs) (hts1 : ∀ i ∈ ts1, i ∈ vs1) (h : tE K mg W (rComp2 ri g vs ri1 g1 vs1 te) σ H Q) :
    tLc2 (tI K mg W ri) (tG K g ts) (tT K mg WF (rC (.bool true))) (tI K mg WF ri1) (tG K g1 ts1) (tT K mg WF (rC (.bool true))) (tE K mg WF te) vs vs1 σ H Q := by
  obtain ⟨B, F, m, ρ, L, s, h⟩ := h
  have h : PostE K mg B W F m ρ σ Q (match ri ρ L with
    | .stuck => .stuck
    | .exc c d L' => .exc c d L'
    | .ok ds L' => if ds.length ≤ 1000 then compD2 g ri1 g1 te vs1 (wipeE ρ vs) ds L' else .stuck) := h
  refine ⟨B, F, m, ρ, L, s, ?_⟩
  cases hr : ri ρ L with
  | stuck => rw [hr] at h; exact h.elim
  | exc c d L' => rw [hr] at h; exact h
  | ok ds L' =>
    rw [hr] at h
    have h : PostE K mg B W F m ρ σ Q (if ds.length ≤ 1000 then compD2 g ri1 g1 te vs1 (wipeE ρ vs) ds L' else .stuck) := h
    by_cases hl : ds.length ≤ 1000
    · rw [if_pos hl] at h
      intro J F1 H1 e1 s1 it Dl hD
      have hmD : Dl ∉ m := fun z => s1.al Dl z hD
      have hBD : B.H Dl = none := by
        cases r : B.H Dl with
        | none => rfl
        | some o =>
          by_cases hm : Dl ∈ B.m
          · exact absurd (s1.bm.subset hm) hmD
          · rw [s1.bh Dl o r hm] at hD
            cases hD
      have hF1 : F1 Dl = none := s1.fh.free hD
      obtain ⟨ys0, L30, e0⟩ : ∃ ys L3, compD2 g ri1 g1 te vs1 (wipeE ρ vs) ds L' = .ok (.list ys) L3 := by
        rcases compD2_or (g := g) (ri1 := ri1) (g1 := g1) (te := te) (vs1 := vs1) (ρ := wipeE ρ vs) ds L' with q | q
        · exact q
        · rw [q] at h
          exact h.elim
      -- behind i turns of the outer loop, with what is left
      let St0 : Nat → Hp → Prop := fun i H => ∃ F2 L2 acc accD ys L3, Same F1 F2 ∧ Sta K B F2 m ρ L2 σ H ∧ Acc F2 H m B Dl acc accD K (i * 1000) ∧ compD2 g ri1 g1 te vs1 (wipeE ρ vs) (ds.drop i) L2 = .ok (.list ys) L3 ∧ PostE K mg B W F2 m ρ σ Q (.ok (.list (accD ++ ys)) L3)
      refine ⟨fun i n H => n = ds.length - i ∧ i ≤ ds.length ∧ St0 i H, ⟨ds.length, by simp, Nat.zero_le _, F1, L', [], [], ys0, L30, Same.refl _, s1.wr hF1 hmD hBD, ⟨hF1, upd_same, hmD, hBD, .nil, Nat.zero_le _⟩, e0, by rw [e0] at h; exact PostE.mono e1 h⟩, ?_⟩
      rintro i n H2 ⟨rfl, hi, F2, L2, acc, accD, ys, L3, e2, s2, A2, hc, q⟩
      by_cases hlt : i < ds.length
      · have hd : ds[i]? = some ds[i] := List.getElem?_eq_getElem hlt
        obtain ⟨hgo, hy⟩ := it.go i _ H2 (e2.trans s2.fh) hd
        refine Or.inr ⟨hgo, St0 (i + 1), fun H' hN => ⟨ds.length - (i + 1), by omega, rfl, hlt, hN⟩, fun x H3 y => ?_⟩
        obtain ⟨eh, dx⟩ := hy x H3 y
        subst eh
        rw [drop_at hd] at hc
        unfold compD2 at hc
        cases hz : g ds[i] (wipeE ρ vs) with
        | none => rw [hz] at hc; cases hc
        | some ρ1 =>
          rw [hz] at hc
          have hc : bindIN (ri1 ρ1 L2) (fun es L1 => bindL' (compD g1 (rC (.bool true)) te (wipeE ρ1 vs1) es L1) fun ys L2 => appL ys (compD2 g ri1 g1 te vs1 (wipeE ρ vs) (ds.drop (i + 1)) L2)) = .ok (.list ys) L3 := hc
          refine ⟨⟨F2, m, H3⟩, F2, m, wipeE ρ vs, L2, ds[i], ρ1, s2.base.slots (wipe_ok vs s2.sl), dp_mono e2 dx, hz, fun σ2 t2 off => ⟨wipe_back hts off, ?_⟩⟩
          -- no test
          refine ⟨⟨F2, m, H3⟩, F2, m, ρ1, L2, t2, fun F4 H4 e4 t4 => ?_⟩
          show tI K mg WF ri1 σ2 H4 _
          refine ⟨⟨F2, m, H3⟩, F4, m, ρ1, L2, t4, ?_⟩
          have outer : ∀ {F4 : Hp} {L4 : Sto} {H4 : Hp} {ρ4 : En}, Same F2 F4 → Sta K ⟨F2, m, H3⟩ F4 m ρ4 L4 σ2 H4 → Sta K B F4 m ρ L4 σ H4 ∧ Acc F4 H4 m B Dl acc accD K (i * 1000) := by
            intro F4 L4 H4 ρ4 e4 t4
            refine ⟨(s2.rebase t4).slots (paired_mono (fun _ _ h => h.mono t4.bf (List.prefix_refl m)) s2.sl), ?_, t4.bh Dl _ A2.at_ hmD, hmD, hBD, dpa_mono e4 A2.dd, A2.few⟩
            cases r : F4 Dl with
            | none => rfl
            | some o =>
              rcases t4.bn Dl A2.nf (by rw [r]; intro z; cases z) with z | z
              · have z' : H3 Dl = none := z
                rw [A2.at_] at z'
                cases z'
              · exact absurd z hmD
          cases hi1 : ri1 ρ1 L2 with
          | stuck => rw [hi1] at hc; cases hc
          | exc _ _ _ => rw [hi1] at hc; cases hc
          | ok es L4 =>
            rw [hi1] at hc
            have hc : (if es.length ≤ 1000 then bindL' (compD g1 (rC (.bool true)) te (wipeE ρ1 vs1) es L4) (fun ys L2 => appL ys (compD2 g ri1 g1 te vs1 (wipeE ρ vs) (ds.drop (i + 1)) L2)) else .stuck) = .ok (.list ys) L3 := hc
            by_cases hle : es.length ≤ 1000
            · rw [if_pos hle] at hc
              intro J1 F5 H5 e5 t5 it1
              have e25 : Same F2 F5 := e4.trans e5
              obtain ⟨o5, A5⟩ := outer e25 t5
              rcases compD_or (g := g1) (tt := rC (.bool true)) (te := te) (ρ := wipeE ρ1 vs1) es L4 with ⟨ys1, L5, ec⟩ | ec
              · rw [ec] at hc
                have hc : appL ys1 (compD2 g ri1 g1 te vs1 (wipeE ρ vs) (ds.drop (i + 1)) L5) = .ok (.list ys) L3 := hc
                cases hk : compD2 g ri1 g1 te vs1 (wipeE ρ vs) (ds.drop (i + 1)) L5 with
                | stuck => rw [hk] at hc; cases hc
                | exc _ _ _ => rw [hk] at hc; cases hc
                | ok dd L6 =>
                  rw [hk] at hc
                  cases dd with
                  | none => cases hc
                  | bool _ => cases hc
                  | int _ => cases hc
                  | str _ => cases hc
                  | tuple _ => cases hc
                  | dict _ => cases hc
                  | list zs =>
                    have hc : Res.ok (.list (ys1 ++ zs)) L6 = .ok (.list ys) L3 := hc
                    cases hc
                    -- the inner loop
                    let St1 : Nat → Hp → Prop := fun j H => ∃ F6 L7 acc accD ys2, Same F5 F6 ∧ Sta K B F6 m ρ1 L7 σ2 H ∧ Paired (SlO K F6 m) ρ σ ∧ Acc F6 H m B Dl acc accD K (i * 1000 + j) ∧
                      compD g1 (rC (.bool true)) te (wipeE ρ1 vs1) (es.drop j) L7 = .ok (.list ys2) L5 ∧ PostE K mg B W F6 m ρ σ Q (.ok (.list (accD ++ (ys2 ++ zs))) L3)
                    refine ⟨fun j n H => n = es.length - j ∧ j ≤ es.length ∧ St1 j H, ⟨es.length, by simp, Nat.zero_le _, F5, L4, acc, accD, ys1, Same.refl _, s2.rebase t5, o5.sl, A5, ec, PostE.mono e25 q⟩, ?_⟩
                    rintro j nj H6 ⟨rfl, hj, F6, L7, acc6, accD6, ys2, e6, t6, p6, A6, c6, q6⟩
                    by_cases hjl : j < es.length
                    · have hd1 : es[j]? = some es[j] := List.getElem?_eq_getElem hjl
                      obtain ⟨hgo1, hy1⟩ := it1.go j _ H6 (e6.trans t6.fh) hd1
                      refine Or.inr ⟨hgo1, St1 (j + 1), fun H' hN => ⟨es.length - (j + 1), by omega, rfl, hjl, hN⟩, fun x1 H7 y1 => ?_⟩
                      obtain ⟨eh1, dx1⟩ := hy1 x1 H7 y1
                      subst eh1
                      rw [drop_at hd1] at c6
                      unfold compD at c6
                      cases hz1 : g1 es[j] (wipeE ρ1 vs1) with
                      | none => rw [hz1] at c6; cases c6
                      | some ρ3 =>
                        rw [hz1] at c6
                        have c6 : bindN (te ρ3 L7) (fun y L2 => consL y (compD g1 (rC (.bool true)) te (wipeE ρ1 vs1) (es.drop (j + 1)) L2)) = .ok (.list ys2) L5 := c6
                        refine ⟨⟨F6, m, H7⟩, F6, m, wipeE ρ1 vs1, L7, es[j], ρ3, t6.base.slots (wipe_ok vs1 t6.sl), dp_mono e6 dx1, hz1, fun σ3 t3 off1 => ⟨wipe_back hts1 off1, ?_⟩⟩
                        refine ⟨⟨F6, m, H7⟩, F6, m, ρ3, L7, t3, fun F8 H8 e8 t8 => ?_⟩
                        show tE K mg WF te σ3 H8 _
                        refine ⟨⟨F6, m, H7⟩, F8, m, ρ3, L7, t8, ?_⟩
                        cases hy3 : te ρ3 L7 with
                        | stuck => rw [hy3] at c6; cases c6
                        | exc _ _ _ => rw [hy3] at c6; cases c6
                        | ok yd L8 =>
                          rw [hy3] at c6
                          intro yv F9 H9 e9 t9 dy
                          have e69 : Same F6 F9 := e8.trans e9
                          have nf9 : F9 Dl = none := by
                            cases r : F9 Dl with
                            | none => rfl
                            | some o =>
                              rcases t9.bn Dl A6.nf (by rw [r]; intro z; cases z) with z | z
                              · have z' : H7 Dl = none := z
                                rw [A6.at_] at z'
                                cases z'
                              · exact absurd z hmD
                          have few := A6.few
                          refine ⟨acc6, t9.bh Dl _ A6.at_ hmD, by rw [sizeLine_eq]; omega, ?_⟩
                          have c6 : consL yd (compD g1 (rC (.bool true)) te (wipeE ρ1 vs1) (es.drop (j + 1)) L8) = .ok (.list ys2) L5 := c6
                          cases hk2 : compD g1 (rC (.bool true)) te (wipeE ρ1 vs1) (es.drop (j + 1)) L8 with
                          | stuck => rw [hk2] at c6; cases c6
                          | exc _ _ _ => rw [hk2] at c6; cases c6
                          | ok dd2 L9 =>
                            rw [hk2] at c6
                            cases dd2 with
                            | none => cases c6
                            | bool _ => cases c6
                            | int _ => cases c6
                            | str _ => cases c6
                            | tuple _ => cases c6
                            | dict _ => cases c6
                            | list ys3 =>
                              have c6 : Res.ok (.list (yd :: ys3)) L9 = .ok (.list ys2) L5 := c6
                              cases c6
                              have r9 := (t6.rebase t9).slots (paired_mono (fun _ _ h => h.mono e69 (List.prefix_refl m)) t6.sl)
                              refine ⟨F9, L8, acc6 ++ [yv], accD6 ++ [yd], ys3, e6.trans e69, r9.wr nf9 hmD hBD, paired_mono (fun _ _ h => h.mono e69 (List.prefix_refl m)) p6,
                                ⟨nf9, upd_same, hmD, hBD, dpa_app (dpa_mono e69 A6.dd) (.cons dy .nil), ?_⟩, hk2, ?_⟩
                              · rw [List.length_append, List.length_singleton]
                                omega
                              · rw [List.append_assoc]
                                exact PostE.mono e69 q6
                    · have e : j = es.length := by omega
                      subst e
                      refine Or.inl ⟨it1.stop H6 (e6.trans t6.fh), ?_⟩
                      rw [List.drop_length] at c6
                      have c6 : Res.ok (.list []) L7 = .ok (.list ys2) L5 := c6
                      cases c6
                      exact ⟨F6, _, acc6, accD6, zs, L3, (e2.trans e25).trans e6, t6.slots p6, ⟨A6.nf, A6.at_, A6.nm, A6.nb, A6.dd, by have := A6.few; omega⟩, hk, q6⟩
              · rw [ec] at hc
                cases hc
            · rw [if_neg hle] at hc
              cases hc
      · have e : i = ds.length := by omega
        subst e
        refine Or.inl ⟨it.stop H2 (e2.trans s2.fh), ?_⟩
        rw [List.drop_length] at hc
        have hc : Res.ok (.list []) L2 = .ok (.list ys) L3 := hc
        cases hc
        rw [List.append_nil] at q
        exact q (.ref Dl) (upd F2 Dl (.lst acc)) H2 (same_upd A2.nf) (s2.adopt A2.at_ A2.nf hmD hBD) (.lst (SqL.of upd_same) (dpa_mono (same_upd A2.nf) A2.dd))
    · rw [if_neg hl] at h
      exact h.elim
end
section
variable {X : Cx} {W : WX} {elt tg iter tg1 iter1 : Expr} {scope : Scope} {own : List (Str × Nat)} {vs1 : List Nat} {pos : Pos} {ri ri1 : RI} {g g1 : RG} {ts ts1 : List Nat} {te : RE}
theorem dE_comp2 (hc : X.calm = true) (hN : X.N.Nodup) (hi : DI X W tg iter ri) (ok : BlkOk X.N X.env.scope scope own) (hg : Blk X scope fun Y => DG Y tg g ts) (hi1 : Blk X scope fun Y => DI Y WF tg1 iter1 ri1) (hg1 : Blk X scope fun Y => DG Y tg1 g1 ts1) (he : Blk X scope fun Y => DE Y WF elt te)
    (hv : ∀ i ∈ vs1, i ∈ own.map (·.2) := by decide) (hts : ∀ i ∈ ts, i ∈ own.map (·.2) := by decide) (hts1 : ∀ i ∈ ts1, i ∈ vs1 := by decide) (hs : ∀ x, foldedSetIterable iter X.env x = pure x := by intro _; rfl) (hs1 : ∀ env x, foldedSetIterable iter1 env x = pure x := by intro _ _; rfl) :
    DE X W (.ListComp elt [⟨tg, iter, [], 0⟩, ⟨tg1, iter1, [], 0⟩] scope pos) (rComp2 ri g (own.map (·.2)) ri1 g1 vs1 te) :=
  pe_imp (pe_lc2 (wi := tI X.K X.mg W ri) (g := tG X.K g ts) (tt := tT X.K X.mg WF (rC (.bool true))) (wi1 := tI X.K X.mg WF ri1) (g1 := tG X.K g1 ts1) (tt1 := tT X.K X.mg WF (rC (.bool true))) (te := tE X.K X.mg WF te) hc hN hi ok hv hg (fun _ _ _ _ _ => dTs_nil) hi1 hg1 (fun _ _ _ _ _ => dTs_nil) he hs hs1)
    fun _ _ _ h => comp2_go hts hts1 h
end
/-! ### the law's end -/
theorem law_end {P : Program} {w : World} {K : PySem.W.Frag} {mg mb : Str → Option Value} {k : Nat} {fa a : Addr} {fd : FuncData} {x : Str} {sp : Sp} {s1 : Shared} {vs : List Value} {ns : List Int}
    (KX : K.In s1.heap) (hns : s1.heap.Ns mainGlobals mg) (hb : s1.heap.Ns builtinsNs mb) (hbb : ∀ x : Str, x ≠ "__name__" → mb x = bootBuiltins x) (hlim : s1.heap.NoLimit) (hg : s1.gens = #[]) (ha : s1.heap.get? a = some { cls := .type "list", data := .seq vs.toArray }) (hi : IntsAre vs ns) (hl : ns.length ≤ sizeLine)
    (hr : Room k callerA) (F : ∀ base : Heap, K.In base → base.Ns mainGlobals mg → FnG P w K mg base k fa fd [x] sp) (hbind : ∀ (s : Shared) (u : Value), BindsTo s fd ⟨[u], []⟩ [(x, u)]) (hsp : ∀ H : Hp, Only H → SqL K H a (ns.map V.int) → sp [.ref a] H (fun v _ => v = .bl true) fun _ _ _ => False) :
    codeAny (model P w) callerA (.call (.ref fa) ⟨[.ref a], []⟩) (fun r s' => r = .ok (.ret (.bool true)) ∧ OldK s1.heap s'.heap ∧ s'.os = s1.os ∧ AllBare s'.gens) s1 := by
  have rv := vals_ints hi
  have len := hi.length
  have main : ∀ H : Hp, Only H → SqL K H a (ns.map V.int) → HOk P w H s1.heap → (∀ b, H b ≠ none → b = a) → (H a ≠ none → K.lookup a = none) →
      codeAny (model P w) callerA (.call (.ref fa) ⟨[.ref a], []⟩) (fun r s' => r = .ok (.ret (.bool true)) ∧ OldK s1.heap s'.heap ∧ s'.os = s1.os ∧ AllBare s'.gens) s1 := by
    intro H only sq hok one nk
    have gone : ∀ {b : Addr} {o : Obj}, s1.heap.get? b = some o → H b = none → (hidT s1.heap H).get? b = some o := fun e n => hidT_get e n
    have free : ∀ {b : Addr} {o : Obj} {es : Array DictEntry} {ep : Nat}, s1.heap.get? b = some o → o.data = .dict es ep → H b = none := by
      intro b o es ep e d
      cases q : H b with
      | none => rfl
      | some u =>
        have eb : b = a := one b (by rw [q]; simp)
        subst eb
        rw [ha] at e
        cases e
        cases (show Data.seq vs.toArray _ = Data.dict es ep from d)
    have ns2 : ∀ {b : Addr} {mm : Str → Option Value}, s1.heap.Ns b mm → (hidT s1.heap H).Ns b mm := fun {b mm} ⟨o, es, ep, e, d, r⟩ => ⟨o, es, ep, gone e (free e d), d, r⟩
    have kb : K.In (hidT s1.heap H) := fun b o e => gone (KX b o e) (by
      cases q : H b with
      | none => rfl
      | some u =>
        have eb : b = a := one b (by rw [q]; simp)
        subst eb
        rw [nk (by rw [q]; simp)] at e
        cases e)
    have md : Mod K mg (hidT s1.heap H) := ⟨kb, ns2 hns, ⟨mb, ns2 hb, hbb⟩, let ⟨mc, h1, h2⟩ := hlim; ⟨mc, ns2 h1, h2⟩⟩
    have e0 : Env0 P w K mg (hidT s1.heap H) callerA [] s1 H := ⟨rfl, md, fun b o e => of_hidT e, Nat.le_of_eq (hidT_size _ _), trivial, fun b hb => absurd (show b ∈ ([] : List Addr) from hb) (by simp), hok, .of_eq hg⟩
    refine codeAny_mono ((F _ kb (ns2 hns)).go callerA [] s1 H ⟨[.ref a], []⟩ [.ref a] [.ref a] _ _ hr rfl e0 (hbind s1 (.ref a)) (.cons rfl .nil) (hsp H only sq)) fun r s2 z => ?_
    match r, z with
    | .error e, ⟨_, _, _, _, _, _, _, _, _, _, _, _, z⟩ => exact z.elim
    | .ok .next, z => exact False.elim z
    | .ok .brk, z => exact False.elim z
    | .ok .cont, z => exact False.elim z
    | .ok (.ret u), ⟨v, H2, os, bare, un, hok2, rr, q⟩ =>
      have q : v = .bl true := q
      subst q
      obtain rfl : u = Value.bool true := rr
      refine ⟨rfl, OldK.of_keep fun b o e => ?_, os, bare⟩
      cases q : H b with
      | none => exact un.keep b o e q (by intro z; exact absurd (show b ∈ ([] : List Addr) from z) (by simp)) (by simp)
      | some u =>
        rcases only b with z | ⟨ob, xs, z⟩
        · rw [q] at z
          cases z
        · obtain ⟨g1, _⟩ := hok b _ z
          obtain ⟨g2, _⟩ := hok2 b _ (un.frzs b ob _ z)
          rw [e] at g1
          cases g1
          exact g2
  cases hk : K.lookup a with
  | some o =>
    have e := KX a o hk
    rw [ha] at e
    cases e
    exact main (fun _ => none) (fun _ => Or.inl rfl) (Or.inr ⟨_, vs.toArray, _, hk, rfl, rfl, rfl, by rw [List.size_toArray, len]; exact hl, by simpa using rv⟩) (fun b u z => by cases (show (none : Option HO) = some u from z)) (fun b z => absurd rfl z) fun z => absurd rfl z
  | none =>
    refine main (fun b => if b = a then some (.frz { cls := .type "list", data := .seq vs.toArray } (.lst (ns.map V.int))) else none) (fun b => ?_) (Or.inl (Or.inr ⟨{ cls := .type "list", data := .seq vs.toArray }, if_pos rfl⟩)) (fun b u z => ?_) (fun b z => ?_) fun _ => hk
    · by_cases hb : b = a
      · exact Or.inr ⟨_, _, if_pos hb⟩
      · exact Or.inl (if_neg hb)
    · by_cases hb : b = a
      · cases (if_pos hb).symm.trans z
        subst hb
        exact ⟨ha, by rw [List.length_map]; exact hl, vs, _, rv, ha⟩
      · cases (if_neg hb).symm.trans z
    · by_cases hb : b = a
      · exact hb
      · exact absurd (if_neg hb) z
theorem walk_end {l : PySem.W.OpenLaw} {n k : Nat} {q : Program} {loose : List Str} {XP : (Str → Option Value) → Heap → Prop} {YP : World → Heap → Prop} {d : DefRec} {K : Params → PySem.W.Frag} {x : Str} {fl : RF}
    (hn : l.most = some n) (hn2 : n ≤ sizeLine) (hdf : d.params.defaults = []) (hr : Room k callerA) (hY : ∀ (w : World) (h : Heap), YP w h → (K w.params).In h)
    (F : ∀ (w : World) (mg : Str → Option Value) (fa : Addr) (h : Heap), (K w.params).In h → h.Ns mainGlobals mg → mg d.name = some (.ref fa) →
      ∃ fd : FuncData, (∀ (s : Shared) (u : Value), BindsTo s fd ⟨[u], []⟩ [(x, u)]) ∧ ∀ base : Heap, (K w.params).In base → base.Ns mainGlobals mg → FnD l.prog w (K w.params) mg base k fa fd [x] fl)
    (plain : ∀ ns : List Int, ns.length ≤ n → ∃ L, fl [.dat (.list (ns.map PyData.int))] [] = .ok (.bool true) L) : PySem.W.WalkO q loose XP YP l.row.toRowW d [] (fun f vs => PySem.call f vs) := by
  refine Att.attach_call hn hdf fun w s₀ s1 mg mb fa o pm cd doc a vs ns G Y ho hd hcd hmg hobj hints hlen hg => ?_
  have KX := hY w _ Y
  obtain ⟨fd, hb, hF⟩ := F w mg fa _ KX G.T.g hmg
  refine law_end KX G.T.g G.T.b G.T.builtins G.T.nolimit hg hobj hints (Nat.le_trans hlen hn2) hr hF hb fun H only sq => ?_
  obtain ⟨L, e⟩ := plain ns hlen
  refine ⟨H, [], [.dat (.list (ns.map PyData.int))], [], rfl, ⟨Same.refl _, rfl, List.nodup_nil, (fun _ h => by cases h), (fun k a ds h => by simp at h), .cons (show SlO (K w.params) H [] (.dat (.list (ns.map PyData.int))) (some (.ref a)) from .lst sq (dpa_ints ns)) .nil, Same.refl _, fun _ h g => absurd h g, fun _ _ h _ => h, List.prefix_refl _, fun _ h => by cases h⟩, ?_⟩
  rw [e]
  intro v F' m' ρ' σ' H' _ _ dv
  cases dv
  rfl
end Sh
set_option maxRecDepth 100000
set_option maxHeartbeats 4000000
/-! Sh13: defs and classes by the names that the module gives them. -/
namespace Sh
open PySem L2 PyProof.Rows
/-- the text's def x, as it stands behind the top -/
def Def (K : PySem.W.Frag) (mg : Str → Option Value) (x : Str) (st : Stmt) (ps : List Str) : Prop := ∃ f fd, mg x = some (.ref f) ∧ Fun K x x st f fd ∧ Binds K fd ps []
/-- what is known of the module's x: a def that keeps r -/
def Kn (P : Program) (w : World) (K : PySem.W.Frag) (mg : Str → Option Value) (base : Heap) (k : Nat) (x : Str) (ps : List Str) (r : RF) : Prop := ∃ f fd, mg x = some (.ref f) ∧ PySem.W.keepIn K (.ref f) = true ∧ Binds K fd ps [] ∧ FnD P w K mg base k f fd ps r
def KnO (P : Program) (w : World) (K : PySem.W.Frag) (mg : Str → Option Value) (base : Heap) (k : Nat) (x : Str) (ps : List Str) (r : RFO) : Prop := ∃ f fd, mg x = some (.ref f) ∧ PySem.W.keepIn K (.ref f) = true ∧ Binds K fd ps [] ∧ FnG P w K mg base k f fd ps (spOwn K ps.length r)
structure XcK (K : PySem.W.Frag) (mg : Str → Option Value) (P : Program) (w : World) (base : Heap) (kn : List Str) (top : Str) : Prop where
  cls : ∀ c ∈ kn, ∃ C, XcT K mg P w base c C
  ex : ∀ c ∈ kn, ∀ k ∈ kn, ∀ Cc Ck, mg c = some (.ref Cc) → mg k = some (.ref Ck) → PySem.W.exmOne K (.ref Cc) (.ref Ck) = some (decide (c = k))
  all : ∃ C, mg top = some (.ref C) ∧ ∀ c ∈ kn, ∀ Cc, mg c = some (.ref Cc) → PySem.W.exmOne K (.ref Cc) (.ref C) = some true
section
variable {X : Cx} {W : WX} {k n : Nat} {ps : List Str} {r : RF} {ro : RFO} {x y : Str} {p pos pos' px : Pos} {e : Expr} {es : List Expr} {ra : RA} {i : Nat}
theorem dE_kn (h : Kn X.prog X.w X.K X.mg X.base k x ps r) (hr : Room k X.A) (gd : X.A.guards = some []) (tk : L2N.Takes X W) (ha : DA X W (e :: es) ra) (hn : ps.length = n := by rfl) (hg : Gl X x := by rfl)
    (hdb : (x == ("__debug__" : Str)) = false := by decide) (he : starEach (e :: es) X.env = (false, eval e X.env) :: starEach es X.env := by rfl) (hpl : (backTo pos (starEach es X.env)).any (·.1) = false := by rfl) : DE X W (.Call (.Name x p) (e :: es) [] pos) (rCall n r ra) := by
  obtain ⟨f, fd, hm, hk, hb, G⟩ := h
  subst hn
  exact dE_call G hr gd hg hm hk hb tk ha hdb he hpl
theorem pe_gn0 {f : Addr} {fd : FuncData} {sp : Sp} {E : L2.St → XK} (G : FnG X.prog X.w X.K X.mg X.base k f fd [] sp) (hr : Room k X.A) (gd : X.A.guards = some []) (hg : Gl X x) (hm : X.mg x = some (.ref f)) (hk : PySem.W.keepIn X.K (.ref f) = true) (hb : Binds X.K fd [] []) (hx : ∀ σ, PassesAt (L2N.CX X.prog X.w) X σ (E σ))
    (hdb : (x == ("__debug__" : Str)) = false := by decide) : PE X (.Call (.Name x p) [] [] pos) (fun σ H Q => sp [] H Q (E σ)) :=
  ⟨fun pins s σ H Q I h => wpAny_Call_Name_kw (ld_glob I hg hm (PySem.W.callWith_K0 I.kIn hk (run_G (E := E) (us := []) G hr gd hb (hx σ) I .nil h)) hdb)⟩
theorem dE_kn0 (h : Kn X.prog X.w X.K X.mg X.base k x [] r) (hr : Room k X.A) (gd : X.A.guards = some []) (tk : L2N.Takes X W) (hg : Gl X x := by rfl) (hdb : (x == ("__debug__" : Str)) = false := by decide) : DE X W (.Call (.Name x p) [] [] pos) (rCall 0 r aNil) := by
  obtain ⟨f, fd, hm, hk, hb, G⟩ := h
  refine pe_imp (pe_gn0 (E := WE W) G hr gd hg hm hk hb (fun σ => L2N.passAt tk σ) hdb) fun σ H Q h => ?_
  obtain ⟨B, F, m, ρ, L, s, h⟩ := h
  have h : PostE X.K X.mg B W F m ρ σ Q (match r [] L with
    | .ok d L2 => .ok d (L2.take L.length)
    | .exc c d L2 => .exc c d (L2.take L.length)
    | .stuck => .stuck) := h
  refine ⟨F, m, [], L, rfl, s.base.slots .nil, ?_⟩
  cases hr : r [] L with
  | stuck => rw [hr] at h; exact h.elim
  | ok d L2 =>
    rw [hr] at h
    exact fun v F' m' ρ' σ' H' e t dv => h v F' H' e (s.cut t) dv
  | exc c d L2 =>
    rw [hr] at h
    exact fun cls dd F' m' ρ' σ' H' e t xr => h cls dd F' H' e (s.cut t) xr
theorem dS_knO (h : KnO X.prog X.w X.K X.mg X.base k x ps ro) (hN : X.N.Nodup) (hi : X.N[i]? = some y) (hy : Loc X.env.scope y) (hr : Room k X.A) (gd : X.A.guards = some []) (tk : L2N.Takes X W) (ha : DA X W (e :: es) ra) (hn : ps.length = n := by rfl) (hg : Gl X x := by rfl)
    (hdb : (x == ("__debug__" : Str)) = false := by decide) (he : starEach (e :: es) X.env = (false, eval e X.env) :: starEach es X.env := by rfl) (hpl : (backTo pos (starEach es X.env)).any (·.1) = false := by rfl)
    (hs : swapsWith (.Call (.Name x p) (e :: es) [] pos) (some (.Name y px)) pos'.line X.env = pure false := by rfl) (hf : X.fn y = true ∨ X.env.scope.names.lookup y = some .local := by first | exact .inl rfl | exact .inr rfl | assumption) :
    DS X W (.Assign [.Name y px] (.Call (.Name x p) (e :: es) [] pos) pos') (rOwnCall i n ro ra) := by
  obtain ⟨f, fd, hm, hk, hb, G⟩ := h
  subst hn
  exact dS_ownCall hN hi hy G hr gd hg hm hk hb tk ha hdb he hpl hs hf
variable {kn : List Str} {top : Str} {pos2 : Pos} {re : RE}
theorem dS_raiseK (M : XcK X.K X.mg X.prog X.w X.base kn top) (hx : x ∈ kn) (hc : X.calm = true) (hr : Room 2 X.A) (tk : L2N.Takes X W) (he : DE X W e re) (hg : Gl X x := by rfl) (hdb : (x == ("__debug__" : Str)) = false := by decide)
    (hs : starEach (e :: []) X.env = (false, eval e X.env) :: starEach [] X.env := by rfl) (hpl : (backTo pos (starEach [] X.env)).any (·.1) = false := by rfl) : DS X W (.Raise (some (.Call (.Name x p) [e] [] pos)) none pos2) (rRaise x re) := by
  obtain ⟨C, T⟩ := M.cls x hx
  exact dS_raise hc T hr tk hg he hdb hs hpl
def ClOnE (X : Cx) (kn : List Str) (hs : List ExceptHandler) (cl : List Cl) : Prop := ∃ hd, ClOn X kn hs cl hd
theorem cl_nil : ClOnE X kn [] [] := ⟨_, .nil⟩
theorem cl_nm (M : XcK X.K X.mg X.prog X.w X.base kn top) {kx n x y word : Str} {r i j : Nat} {l : List ExceptHandler} {cl : List Cl} {p1 p2 px py pt p3 p4 p5 p6 p7 : Pos} {kt k2 k3 : Nat} (t : ClOnE X kn l cl) (hk : kx ∈ kn) (hg : Gl X kx := by rfl) (hdb : (kx == ("__debug__" : Str)) = false := by decide)
    (hn : X.N[r]? = some n := by rfl) (hl : X.env.kindOf n = some .local := by rfl) (vn : Vis X.env.scope n := by exact Or.inl rfl) (dn : (n == ("__debug__" : Str)) = false := by decide) (cn : (n == ("__classdict__" : Str)) = false := by decide) (hi : X.N[i]? = some x := by rfl) (hj : X.N[j]? = some y := by rfl) (ne : i ≠ j := by decide)
    (lx : X.env.scope.names.lookup x = some .local := by rfl) (ly : X.env.scope.names.lookup y = some .local := by rfl)
    (hw : swappedStores [.Tuple [.Name x px, .Name y py] kt pt] (.Tuple [.Constant (.str word) k3 p3, .Attribute (.Name n p4) "at" p5] k2 p6) X.env = pure (some [x, y]) := by rfl) (hsw : swapsWithSole [.Tuple [.Name x px, .Name y py] kt pt] (.Tuple [.Constant (.str word) k3 p3, .Attribute (.Name n p4) "at" p5] k2 p6) p7.line X.env = pure false := by rfl)
    (hb : attributeBase (.Name n p4) "at" X.env (eval (.Name n p4) X.env) = eval (.Name n p4) X.env := by rfl)
    (hs1 : starEach [.Constant (.str word) k3 p3, .Attribute (.Name n p4) "at" p5] X.env = (false, eval (.Constant (.str word) k3 p3) X.env) :: starEach [.Attribute (.Name n p4) "at" p5] X.env := by rfl) (hs2 : starEach [.Attribute (.Name n p4) "at" p5] X.env = (false, eval (.Attribute (.Name n p4) "at" p5) X.env) :: starEach [] X.env := by rfl) :
    ClOnE X kn (.ExceptHandler (some (.Name kx p1)) (some n) [.Assign [.Tuple [.Name x px, .Name y py] kt pt] (.Tuple [.Constant (.str word) k3 p3, .Attribute (.Name n p4) "at" p5] k2 p6) p7] p2 :: l) (.nm kx r i j word :: cl) := by
  obtain ⟨hd, t⟩ := t
  obtain ⟨C, T⟩ := M.cls kx hk
  exact ⟨_, .nm ⟨hg, hdb, Or.inl T.at_⟩ T.at_ T.xf T.no (fun c hc Cc hm => M.ex c hc kx hk Cc C hm T.at_) hn hl vn dn cn hi hj ne lx ly hw hsw hb hs1 hs2 t⟩
theorem cl_al (M : XcK X.K X.mg X.prog X.w X.base kn top) {x word : Str} {i : Nat} {l : List ExceptHandler} {cl : List Cl} {p1 p2 px p3 p7 : Pos} {k3 : Nat} (t : ClOnE X kn l cl) (hg : Gl X top := by rfl) (hdb : (top == ("__debug__" : Str)) = false := by decide) (hi : X.N[i]? = some x := by rfl) (lx : Loc X.env.scope x := by exact Or.inl rfl)
    (fx : X.fn x = true ∨ X.env.scope.names.lookup x = some .local := by exact Or.inr rfl) (hsw : swapsWith (.Constant (.str word) k3 p3) (some (.Name x px)) p7.line X.env = pure false := by rfl) :
    ClOnE X kn (.ExceptHandler (some (.Name top p1)) none [.Assign [.Name x px] (.Constant (.str word) k3 p3) p7] p2 :: l) (.al top i word :: cl) := by
  obtain ⟨hd, t⟩ := t
  obtain ⟨C, hm, ex⟩ := M.all
  exact ⟨_, .al ⟨hg, hdb, Or.inl hm⟩ ex hi lx fx hsw t⟩
theorem dS_tryK {body : List Stmt} {h0 : ExceptHandler} {hs : List ExceptHandler} {cl : List Cl} {rb : RS} (hN : X.N.Nodup) (tk : L2N.Takes X W)
    (hb : ∀ (W' : WX) (pn : List (Addr × Obj)) (xe : Value → Shared → Prop), L2N.Takes (X.tr pn xe) W' → PassesOwn (model X.prog X.w) X.A X.env xe → DSs (X.tr pn xe) W' body rb) (hh : ClOnE X kn (h0 :: hs) cl) (hst : X.stack = X.env :: X.outer := by rfl) (hfr : X.env.frame = some X.env.locals := by rfl) :
    DS X W (.Try body (h0 :: hs) [] [] pos) (rTry kn rb cl) := by
  obtain ⟨hd, hh⟩ := hh
  exact dS_try hst hfr hN tk hb hh
end
/-- a def from its body's derivation -/
theorem kn_of {P : Program} {w : World} {K : PySem.W.Frag} {mg : Str → Option Value} {base : Heap} {k : Nat} {x : Str} {st : Stmt} {N ps : List Str} {body : RS} (T : Def K mg x st ps) (S : FnScope N ps (defScope st))
    (hb : ∀ (f : Addr) (cdv : Value) (A : Around) (outer : List Env) (s : Shared) (H : Hp) (E : XK), Room k (A.deeper (envOfC x (defScope st) s.heap.objs.size f cdv)) → A.guards = some [] →
      DSs (cxOf (L2N.CX P w) P w K mg base N x (defScope st) f cdv A outer s H E) (fun cls d _ H' => E cls d H') (defBody st) body) : Kn P w K mg base (k + 1) x ps (rBody N.length body) := by
  obtain ⟨f, fd, hm, F, bd⟩ := T
  exact ⟨f, fd, hm, F.kp, bd, DSs_ok F S fun cdv A outer s H E hr gd => hb f cdv A outer s H E hr gd⟩
theorem kn_stuck {P : Program} {w : World} {K : PySem.W.Frag} {mg : Str → Option Value} {base : Heap} {k : Nat} {x : Str} {st : Stmt} {ps : List Str} (T : Def K mg x st ps) : Kn P w K mg base k x ps (fun _ _ => .stuck) := by
  obtain ⟨f, fd, hm, F, bd⟩ := T
  exact ⟨f, fd, hm, F.kp, bd, ⟨fun vs H Q E ⟨_, _, _, _, _, _, z⟩ => z.elim, fun A up s H ar us vs Q E _ _ _ _ _ ⟨_, _, _, _, _, _, z⟩ => z.elim⟩⟩
/-! ### a def that ends with «return [..]» -/
def POwn (X : Cx) (body : List Stmt) (pre : RS) (ra : RA) : Prop := PSs X body (tSeq (tS X.K X.mg WF pre) (tRet (tLst (tA X.K X.mg WF ra))))
section
variable {X : Cx} {st : Stmt} {rest : List Stmt} {es : List Expr} {ra : RA} {r1 pre : RS} {pl pr : Pos}
theorem pO_ret (i : Nat) (ha : DA X WF es ra) : POwn X [.Return (some (.List es pl)) pr] (rFrz i rNext) ra := by
  refine pss_imp (pss_one (ps_ret (pe_lst ha))) fun Dn σ H ⟨B, F, m, ρ, L, s, h⟩ => ?_
  have h : PostS X.K X.mg B WF F { Dn with nx := fun σ' H' => tRet (tLst (tA X.K X.mg WF ra)) Dn σ' H' } (match frz i ρ L with | some (ρ', L') => .next ρ' L' | none => .stuck) := h
  cases hz : frz i ρ L with
  | none => rw [hz] at h; exact h.elim
  | some q =>
    rw [hz] at h
    obtain ⟨F', e, s'⟩ := frz_ok s hz
    exact h F' m σ H e s'
theorem pO_cons (h1 : DS X WF st r1) (h2 : POwn X rest pre ra) : POwn X (st :: rest) (rSeq r1 pre) ra := by
  refine pss_imp (pss_cons h1 h2) fun Dn σ H ⟨B, F, m, ρ, L, s, h⟩ => ⟨B, F, m, ρ, L, s, ?_⟩
  have h : PostS X.K X.mg B WF F { Dn with nx := fun σ' H' => tRet (tLst (tA X.K X.mg WF ra)) Dn σ' H' } (match r1 ρ L with | .next ρ' L' => pre ρ' L' | .stuck => .stuck | .ret d L' => .ret d L' | .brk ρ' L' => .brk ρ' L' | .cont ρ' L' => .cont ρ' L' | .exc c d ρ' L' => .exc c d ρ' L') := h
  cases hr : r1 ρ L with
  | stuck => rw [hr] at h; exact h.elim
  | next ρ' L' =>
    rw [hr] at h
    exact fun F' m' σ' H' e s' => ⟨B, F', m', ρ', L', s', PostS.mono e h⟩
  | ret d L' => rw [hr] at h; exact h
  | brk ρ' L' => rw [hr] at h; exact h
  | cont ρ' L' => rw [hr] at h; exact h
  | exc c d ρ' L' => rw [hr] at h; exact h
end
theorem knO_of {P : Program} {w : World} {K : PySem.W.Frag} {mg : Str → Option Value} {base : Heap} {k : Nat} {x : Str} {st : Stmt} {N ps : List Str} {pre : RS} {ra : RA} (T : Def K mg x st ps) (S : FnScope N ps (defScope st))
    (hb : ∀ (f : Addr) (cdv : Value) (A : Around) (outer : List Env) (s : Shared) (H : Hp) (E : XK), Room k (A.deeper (envOfC x (defScope st) s.heap.objs.size f cdv)) → A.guards = some [] → POwn (cxOf (L2N.CX P w) P w K mg base N x (defScope st) f cdv A outer s H E) (defBody st) pre ra) :
    KnO P w K mg base (k + 1) x ps (rPre N.length pre ra) := by
  obtain ⟨f, fd, hm, F, bd⟩ := T
  exact ⟨f, fd, hm, F.kp, bd, own_ok F S fun cdv A outer s H E hr gd => hb f cdv A outer s H E hr gd⟩
section
variable {X : Cx} {W : WX} {x : Str} {pos : Pos}
theorem dE_gI {i : Int} (h : ∃ t, X.mg x = some (.int i t)) (hg : Gl X x := by rfl) (hd : (x == ("__debug__" : Str)) = false := by decide) : DE X W (.Name x pos) (rC (.int i)) := by
  obtain ⟨t, h⟩ := h
  exact dE_globI hg h hd
theorem dE_gS {i : Str} (h : ∃ t, X.mg x = some (.str i t)) (hg : Gl X x := by rfl) (hd : (x == ("__debug__" : Str)) = false := by decide) : DE X W (.Name x pos) (rC (.str i)) := by
  obtain ⟨t, h⟩ := h
  exact dE_globS hg h hd
end
theorem bo_len : bootBuiltins "len" = some (.builtin "len") := by decide +kernel
theorem bo_min : bootBuiltins "min" = some (.builtin "min") := by decide +kernel
theorem bo_int : bootBuiltins "int" = some (.type "int") := by decide +kernel
theorem bo_bool : bootBuiltins "bool" = some (.type "bool") := by decide +kernel
theorem bo_str : bootBuiltins "str" = some (.type "str") := by decide +kernel
theorem bo_tuple : bootBuiltins "tuple" = some (.type "tuple") := by decide +kernel
theorem bo_list : bootBuiltins "list" = some (.type "list") := by decide +kernel
theorem bo_sorted : bootBuiltins "sorted" = some (.builtin "sorted") := by decide +kernel
theorem dT_cmp {X : Cx} {W : WX} {a b : Expr} {op : CmpOp} {f : D → D → Option D} {r : R2} {ra rb : RE} {pos : Pos} (ho : OpR X (compareOp op) r) (hk : OpOk X.K f r) (ha : DE X W a ra) (hb : DE X W b rb) (hm : behindInMarks op b = false) : DT X W (.Compare a [op] [b] pos) (rBin f ra rb) := by
  refine pt_imp (pt_cmpR ho ha hb hm) fun σ H Q ⟨B, F, m, ρ, L, s, h⟩ => ?_
  refine bin_go (W := W) (ra := ra) (rb := rb) hk ⟨B, F, m, ρ, L, s, ?_⟩
  cases hr : rBin f ra rb ρ L with
  | stuck =>
    rw [hr] at h
    exact h.elim
  | exc _ _ _ =>
    rw [hr] at h
    exact h
  | ok d L' =>
    rw [hr] at h
    intro v F' H' e s' dv
    cases dv with
    | bl k => exact ⟨k, rfl, h F' H' e s'⟩
    | non => exact h.elim
    | int i => exact h.elim
    | str i => exact h.elim
    | lst _ _ => exact h.elim
    | tup _ _ => exact h.elim
end Sh
set_option maxRecDepth 100000
set_option maxHeartbeats 4000000
namespace Sh
open PySem L2 PyProof.Rows
def topS (i : Nat) : Stmt := PySem.Challenge.pw_nodisguise_k88_rings_apart.main.body.getD i (.Pass ⟨0, 0, 0, 0⟩)
/-- the module's names beside the defs -/
structure MG (mg : Str → Option Value) : Prop where
  zlen : mg "len" = none
  zmin : mg "min" = none
  zint : mg "int" = none
  zbool : mg "bool" = none
  zstr : mg "str" = none
  ztuple : mg "tuple" = none
  zlist : mg "list" = none
  zsorted : mg "sorted" = none
  zset : mg "set" = none
  zrange : mg "range" = none
  zisinstance : mg "isinstance" = none
  zrepr : mg "repr" = none
  cSMALL : ∃ t, mg "SMALL" = some (.str "abcdefghijklmnopqrstuvwxyz" t)
  cFIGURES : ∃ t, mg "FIGURES" = some (.str "0123456789" t)
  cSIGNS : ∃ t, mg "SIGNS" = some (.str "abcdefghijklmnopqrstuvwxyz0123456789._-!*@+" t)
  cMOST_SIGNS : ∃ t, mg "MOST_SIGNS" = some (.int 12 t)
  cLEAST_RING : ∃ t, mg "LEAST_RING" = some (.int 3 t)
def knX : List Str := ["BadLetters", "BadNumber", "BadCase"]
abbrev st__law_purse : Stmt := topS 28
theorem sc__law_purse : FnScope ["script", "figures", "at", "rest", "turn"] ["script"] (defScope st__law_purse) := ⟨rfl, rfl, rfl, by decide +kernel, rfl, by decide +kernel, by decide +kernel⟩
def b__law_purse : RS := (rSeq (rOwn 1 aNil)
  (rSeq (rFor (iRg1 (aCons (rCl minD (aCons (rCl lenD (aCons (rVar 0) aNil)) (aCons (rC (.int 24)) aNil))) aNil)) (gN 2)
  (rSeq (rSet 3 (rBin modD (rCl intD (aCons (rBin ixD (rVar 0) (rVar 2)) aNil)) (rBin powD (rC (.int 24)) (rC (.int 20)))))
  (rFor (iRg1 (aCons (rC (.int 20)) aNil)) (gN 4)
  (rSeq (rApp 1 (rBin modD (rVar 3) (rC (.int 24))))
  (rSeq (rSet 3 (rBin fdivD (rVar 3) (rC (.int 24))))
  (rIf (rBin eqD (rVar 3) (rC (.int 0)))
  (fun ρ L => .brk ρ L)
  rNext))))))
  (rFrz 1 rNext)))
def f__law_purse : RFO := rPre 5 b__law_purse (aCons (rC (.int 0)) (aCons (rVar 1) aNil))
theorem k__law_purse {P : Program} {w : World} {K : PySem.W.Frag} {mg : Str → Option Value} {base : Heap} (M : MG mg) (T : Def K mg "_law_purse" st__law_purse ["script"]) : KnO P w K mg base 1 "_law_purse" ["script"] f__law_purse :=
  knO_of T sc__law_purse fun f cdv A outer s H E hr gd => (by exact (pO_cons (by exact (dS_own (i := 1) sc__law_purse.nd rfl (by first | exact Or.inl rfl | exact Or.inr rfl) (by exact dA_nil)))
  (by exact (pO_cons (by exact (dS_for (L2.passes_of rfl) rfl (by exact (dI_rg1 (by rfl) M.zrange (by exact (dA_cons (by exact (dE_clB (call_min2 rfl) ok_min (by rfl) M.zmin bo_min (by exact (dA_cons (by exact (dE_clB call_len ok_len (by rfl) M.zlen bo_len (by exact (dA_cons (by exact (dE_var (i := 0))) (by exact dA_nil))))) (by exact (dA_cons (by exact dE_int) (by exact dA_nil))))))) (by exact dA_nil))))) (by exact (dG_name (i := 2) sc__law_purse.nd rfl (by first | exact Or.inl rfl | exact Or.inr rfl)))
  (by exact (dSs_cons (by exact (dS_set (i := 3) sc__law_purse.nd rfl (by first | exact Or.inl rfl | exact Or.inr rfl) (by exact (dE_bin op_mod ok_mod (by exact (dE_clT call_int1 ok_intc (by rfl) M.zint bo_int (by exact (dA_cons (by exact (dE_ix ix_seq ok_ix (by exact (dE_var (i := 0))) (by exact (dE_var (i := 2))) (fun _ _ => rfl))) (by exact dA_nil))))) (by exact (dE_bin op_pow ok_pow (by exact dE_int) (by exact dE_int)))))))
  (by exact (dSs_one (by exact (dS_for (L2.passes_of rfl) rfl (by exact (dI_rg1 (by rfl) M.zrange (by exact (dA_cons (by exact dE_int) (by exact dA_nil))))) (by exact (dG_name (i := 4) sc__law_purse.nd rfl (by first | exact Or.inl rfl | exact Or.inr rfl)))
  (by exact (dSs_cons (by exact (dS_app (i := 1) (by exact (dE_bin op_mod ok_mod (by exact (dE_var (i := 3))) (by exact dE_int)))))
  (by exact (dSs_cons (by exact (dS_set (i := 3) sc__law_purse.nd rfl (by first | exact Or.inl rfl | exact Or.inr rfl) (by exact (dE_bin op_fdivW ok_fdiv (by exact (dE_var (i := 3))) (by exact dE_int)))))
  (by exact (dSs_one (by exact (dS_if (by exact (dT_cmp (op_eqD (hr.units)) ok_eq (by exact (dE_var (i := 3))) (by exact dE_int) (by with_unfolding_all rfl)))
  (by exact (dSs_one (by exact dS_break)))
  (by exact dSs_nil)))))))))))))))))
  (by exact (pO_ret 1 (by exact (dA_cons (by exact dE_int) (by exact (dA_cons (by exact (dE_var (i := 1))) (by exact dA_nil)))))))))))
abbrev st_is_letters : Stmt := topS 11
theorem sc_is_letters : FnScope ["x", "sign"] ["x"] (defScope st_is_letters) := ⟨rfl, rfl, rfl, by decide +kernel, rfl, by decide +kernel, by decide +kernel⟩
def b_is_letters : RS := (rSeq (rIf (rOr (rNot (rUn (isiD isStrD) (rVar 0))) (rNot (rChain (cmpD fun i j => decide (i ≤ j)) (cmpD fun i j => decide (i ≤ j)) (rC (.int 1)) (rCl lenD (aCons (rVar 0) aNil)) (rC (.int 12)))))
  (rRet (rC (.bool false)))
  rNext)
  (rRet (rAnd (rBin eqD (rCl lenD (aCons (rComp (iTxt (rVar 0)) (gN 1) [1] (rBin (inD false) (rVar 1) (rC (.str "abcdefghijklmnopqrstuvwxyz0123456789._-!*@+"))) (rVar 1)) aNil)) (rCl lenD (aCons (rVar 0) aNil))) (rBin eqD (rUn lenSetD (rVar 0)) (rCl lenD (aCons (rVar 0) aNil))))))
def f_is_letters : RF := rBody 2 b_is_letters
theorem k_is_letters {P : Program} {w : World} {K : PySem.W.Frag} {mg : Str → Option Value} {base : Heap} (M : MG mg) (T : Def K mg "is_letters" st_is_letters ["x"]) : Kn P w K mg base 1 "is_letters" ["x"] f_is_letters :=
  kn_of T sc_is_letters fun f cdv A outer s H E hr gd => (by exact (dSs_cons (by exact (dS_if (by exact (dT_pw (by exact (dW_or (by exact (dT_not (by exact (dT_val (by exact (dE_isi kit_str (by rfl) M.zisinstance (by rfl) M.zstr bo_str (by exact (dE_var (i := 0))))))))) (by exact (dW_or1 (by exact (dT_not (by exact (dT_chain op_le ok_cmp op_le ok_cmp (by exact dE_int) (by exact (dE_clB call_len ok_len (by rfl) M.zlen bo_len (by exact (dA_cons (by exact (dE_var (i := 0))) (by exact dA_nil))))) (by exact (dE_gI M.cMOST_SIGNS))))))))))))
  (by exact (dSs_one (by exact (dS_ret (by exact dE_bl)))))
  (by exact dSs_nil)))
  (by exact (dSs_one (by exact (dS_ret (by exact (dE_and (by exact (dE_cmp (op_eqD (hr.units)) ok_eq (by exact (dE_clB call_len ok_len (by rfl) M.zlen bo_len (by exact (dA_cons (by exact (dE_comp (own := [("sign", 1)]) (ts := [1]) rfl sc_is_letters.nd (by exact (dI_str (by exact (dE_var (i := 0))))) (by show BlkOk ["x", "sign"] (defScope st_is_letters) _ _; exact ⟨rfl, by decide +kernel, by decide +kernel, by decide +kernel, by decide +kernel⟩) (fun _ _ _ _ _ => by exact (dG_name (i := 1) sc_is_letters.nd rfl (by first | exact Or.inl rfl | exact Or.inr rfl))) (fun _ _ _ _ _ => by exact (dTs_one (by exact (dT_cmp op_inA ok_in (by exact (dE_var (i := 1))) (by exact (dE_gS M.cSIGNS)) (by with_unfolding_all rfl))))) (fun _ _ _ _ _ => by exact (dE_var (i := 1))))) (by exact dA_nil))))) (by exact (dE_clB call_len ok_len (by rfl) M.zlen bo_len (by exact (dA_cons (by exact (dE_var (i := 0))) (by exact dA_nil))))) (by with_unfolding_all rfl))) (by exact (dE_one (by exact (dE_cmp (op_eqD (hr.units)) ok_eq (by exact (dE_lenSet rfl (by rfl) M.zlen (by rfl) M.zset (by exact (dE_var (i := 0))))) (by exact (dE_clB call_len ok_len (by rfl) M.zlen bo_len (by exact (dA_cons (by exact (dE_var (i := 0))) (by exact dA_nil))))) (by with_unfolding_all rfl)))))))))))))
abbrev st_plain_form : Stmt := topS 12
theorem sc_plain_form : FnScope ["x", "part"] ["x"] (defScope st_plain_form) := ⟨rfl, rfl, rfl, by decide +kernel, rfl, by decide +kernel, by decide +kernel⟩
def b_plain_form (f_plain_form : RF) : RS := (rSeq (rIf (rUn (isiD fun d => isTupD d || isLstD d) (rVar 0))
  (rRet (rCl tupleD (aCons (rComp (iTpl (rVar 0)) (gN 1) [1] (rC (.bool true)) (rCall 1 f_plain_form (aCons (rVar 1) aNil))) aNil)))
  rNext)
  (rRet (rVar 0)))
def g_plain_form : Nat → RF
  | 0 => fun _ _ => .stuck
  | n + 1 => rBody 2 (b_plain_form (g_plain_form n))
theorem kg_plain_form {P : Program} {w : World} {K : PySem.W.Frag} {mg : Str → Option Value} {base : Heap} (M : MG mg) (T : Def K mg "plain_form" st_plain_form ["x"]) : ∀ n : Nat, Kn P w K mg base (n + 0) "plain_form" ["x"] (g_plain_form n)
  | 0 => kn_stuck T
  | n + 1 => by
    have k_plain_form := kg_plain_form (P := P) (w := w) (base := base) M T n
    exact kn_of T sc_plain_form fun f cdv A outer s H E hr gd => (by exact (dSs_cons (by exact (dS_if (by exact (dT_val (by exact (dE_isi2 kit_tup kit_lst (by rfl) M.zisinstance (by rfl) M.ztuple bo_tuple (by rfl) M.zlist bo_list (by exact (dE_var (i := 0)))))))
  (by exact (dSs_one (by exact (dS_ret (by exact (dE_clT call_tuple_of ok_tuple (by rfl) M.ztuple bo_tuple (by exact (dA_cons (by exact (dE_comp (own := [("part", 1)]) (ts := [1]) rfl sc_plain_form.nd (by exact (dI_tup (by exact (dE_var (i := 0))))) (by show BlkOk ["x", "part"] (defScope st_plain_form) _ _; exact ⟨rfl, by decide +kernel, by decide +kernel, by decide +kernel, by decide +kernel⟩) (fun _ _ _ _ _ => by exact (dG_name (i := 1) sc_plain_form.nd rfl (by first | exact Or.inl rfl | exact Or.inr rfl))) (fun _ _ _ _ _ => by exact dTs_nil) (fun _ _ _ _ _ => by exact (dE_kn k_plain_form (hr.mono (by omega)) gd takesF (by exact (dA_cons (by exact (dE_var (i := 1))) (by exact dA_nil))))))) (by exact dA_nil)))))))))
  (by exact dSs_nil)))
  (by exact (dSs_one (by exact (dS_ret (by exact (dE_var (i := 0)))))))))
def f_plain_form : RF := g_plain_form 3
abbrev st_check_letters : Stmt := topS 14
theorem sc_check_letters : FnScope ["x"] ["x"] (defScope st_check_letters) := ⟨rfl, rfl, rfl, by decide +kernel, rfl, by decide +kernel, by decide +kernel⟩
def b_check_letters : RS := (rSeq (rIf (rNot (rCall 1 f_is_letters (aCons (rVar 0) aNil)))
  (rRaise "BadLetters" (rCall 1 f_plain_form (aCons (rVar 0) aNil)))
  rNext)
  (rRet (rVar 0)))
def f_check_letters : RF := rBody 1 b_check_letters
theorem k_check_letters {P : Program} {w : World} {K : PySem.W.Frag} {mg : Str → Option Value} {base : Heap} (M : MG mg) (T : Def K mg "check_letters" st_check_letters ["x"]) (k_is_letters : Kn P w K mg base 1 "is_letters" ["x"] f_is_letters) (k_plain_form : Kn P w K mg base 3 "plain_form" ["x"] f_plain_form) (XK : XcK K mg P w base knX "DisguiseError") : Kn P w K mg base 4 "check_letters" ["x"] f_check_letters :=
  kn_of T sc_check_letters fun f cdv A outer s H E hr gd => (by exact (dSs_cons (by exact (dS_if (by exact (dT_not (by exact (dT_val (by exact (dE_kn k_is_letters (hr.mono (by decide)) gd (L2N.takes_of rfl rfl rfl rfl) (by exact (dA_cons (by exact (dE_var (i := 0))) (by exact dA_nil)))))))))
  (by exact (dSs_one (by exact (dS_raiseK XK (x := "BadLetters") (by decide) rfl (hr.mono (by decide)) (L2N.takes_of rfl rfl rfl rfl) (by exact (dE_kn k_plain_form (hr.mono (by decide)) gd (L2N.takes_of rfl rfl rfl rfl) (by exact (dA_cons (by exact (dE_var (i := 0))) (by exact dA_nil)))))))))
  (by exact dSs_nil)))
  (by exact (dSs_one (by exact (dS_ret (by exact (dE_var (i := 0)))))))))
abbrev st_check_ring : Stmt := topS 19
theorem sc_check_ring : FnScope ["letters"] ["letters"] (defScope st_check_ring) := ⟨rfl, rfl, rfl, by decide +kernel, rfl, by decide +kernel, by decide +kernel⟩
def b_check_ring : RS := (rSeq (rDrop (rCall 1 f_check_letters (aCons (rVar 0) aNil)))
  (rIf (rBin (cmpD fun i j => decide (i < j)) (rCl lenD (aCons (rVar 0) aNil)) (rC (.int 3)))
  (rRaise "BadCase" (rC (.str "ring")))
  rNext))
def f_check_ring : RF := rBody 1 b_check_ring
theorem k_check_ring {P : Program} {w : World} {K : PySem.W.Frag} {mg : Str → Option Value} {base : Heap} (M : MG mg) (T : Def K mg "check_ring" st_check_ring ["letters"]) (k_check_letters : Kn P w K mg base 4 "check_letters" ["x"] f_check_letters) (XK : XcK K mg P w base knX "DisguiseError") : Kn P w K mg base 5 "check_ring" ["letters"] f_check_ring :=
  kn_of T sc_check_ring fun f cdv A outer s H E hr gd => (by exact (dSs_cons (by exact (dS_expr (by exact (dE_kn k_check_letters (hr.mono (by decide)) gd (L2N.takes_of rfl rfl rfl rfl) (by exact (dA_cons (by exact (dE_var (i := 0))) (by exact dA_nil)))))))
  (by exact (dSs_one (by exact (dS_if (by exact (dT_cmp op_lt ok_cmp (by exact (dE_clB call_len ok_len (by rfl) M.zlen bo_len (by exact (dA_cons (by exact (dE_var (i := 0))) (by exact dA_nil))))) (by exact (dE_gI M.cLEAST_RING)) (by with_unfolding_all rfl)))
  (by exact (dSs_one (by exact (dS_raiseK XK (x := "BadCase") (by decide) rfl (hr.mono (by decide)) (L2N.takes_of rfl rfl rfl rfl) (by exact dE_str)))))
  (by exact dSs_nil)))))))
abbrev st_ring_pairs : Stmt := topS 20
theorem sc_ring_pairs : FnScope ["letters", "i"] ["letters"] (defScope st_ring_pairs) := ⟨rfl, rfl, rfl, by decide +kernel, rfl, by decide +kernel, by decide +kernel⟩
def b_ring_pairs : RS := (rSeq (rDrop (rCall 1 f_check_ring (aCons (rVar 0) aNil)))
  (rRet (rBin addD (rCl tupleD (aCons (rComp (iRg2 (aCons (rC (.int 1)) (aCons (rCl lenD (aCons (rVar 0) aNil)) aNil))) (gN 1) [1] (rC (.bool true)) (rTup (aCons (rBin ixD (rVar 0) (rBin subD (rVar 1) (rC (.int 1)))) (aCons (rBin ixD (rVar 0) (rVar 1)) aNil)))) aNil)) (rTup (aCons (rTup (aCons (rBin ixD (rVar 0) (rUn negD (rC (.int 1)))) (aCons (rBin ixD (rVar 0) (rC (.int 0))) aNil))) aNil)))))
def f_ring_pairs : RF := rBody 2 b_ring_pairs
theorem k_ring_pairs {P : Program} {w : World} {K : PySem.W.Frag} {mg : Str → Option Value} {base : Heap} (M : MG mg) (T : Def K mg "ring_pairs" st_ring_pairs ["letters"]) (k_check_ring : Kn P w K mg base 5 "check_ring" ["letters"] f_check_ring) : Kn P w K mg base 6 "ring_pairs" ["letters"] f_ring_pairs :=
  kn_of T sc_ring_pairs fun f cdv A outer s H E hr gd => (by exact (dSs_cons (by exact (dS_expr (by exact (dE_kn k_check_ring (hr.mono (by decide)) gd (L2N.takes_of rfl rfl rfl rfl) (by exact (dA_cons (by exact (dE_var (i := 0))) (by exact dA_nil)))))))
  (by exact (dSs_one (by exact (dS_ret (by exact (dE_bin op_addA ok_add (by exact (dE_clT call_tuple_of ok_tuple (by rfl) M.ztuple bo_tuple (by exact (dA_cons (by exact (dE_comp (own := [("i", 1)]) (ts := [1]) rfl sc_ring_pairs.nd (by exact (dI_rg2 (by rfl) M.zrange (by exact (dA_cons (by exact dE_int) (by exact (dA_cons (by exact (dE_clB call_len ok_len (by rfl) M.zlen bo_len (by exact (dA_cons (by exact (dE_var (i := 0))) (by exact dA_nil))))) (by exact dA_nil))))))) (by show BlkOk ["letters", "i"] (defScope st_ring_pairs) _ _; exact ⟨rfl, by decide +kernel, by decide +kernel, by decide +kernel, by decide +kernel⟩) (fun _ _ _ _ _ => by exact (dG_name (i := 1) sc_ring_pairs.nd rfl (by first | exact Or.inl rfl | exact Or.inr rfl))) (fun _ _ _ _ _ => by exact dTs_nil) (fun _ _ _ _ _ => by exact (dE_tup (by exact (dA_cons (by exact (dE_ix ix_seq ok_ix (by exact (dE_var (i := 0))) (by exact (dE_bin op_sub ok_sub (by exact (dE_var (i := 1))) (by exact dE_int))) (fun _ _ => rfl))) (by exact (dA_cons (by exact (dE_ix ix_seq ok_ix (by exact (dE_var (i := 0))) (by exact (dE_var (i := 1))) (fun _ _ => rfl))) (by exact dA_nil))))))))) (by exact dA_nil))))) (by exact (dE_tup (by exact (dA_cons (by exact (dE_tup (by exact (dA_cons (by exact (dE_ix ix_seq ok_ix (by exact (dE_var (i := 0))) (by exact (dE_un un_neg ok_neg (by exact dE_int))) (fun _ _ => rfl))) (by exact (dA_cons (by exact (dE_ix ix_seq ok_ix (by exact (dE_var (i := 0))) (by exact dE_int) (fun _ _ => rfl))) (by exact dA_nil))))))) (by exact dA_nil)))))))))))))
abbrev st_even_names : Stmt := topS 23
theorem sc_even_names : FnScope ["letters", "half", "a", "b"] ["letters"] (defScope st_even_names) := ⟨rfl, rfl, rfl, by decide +kernel, rfl, by decide +kernel, by decide +kernel⟩
def b_even_names : RS := (rSeq (rSet 1 (rUn (stepD 2) (rVar 0)))
  (rRet (rCl tupleD (aCons (rComp2 (iTxt (rVar 1)) (gN 2) [2, 3] (iTxt (rVar 1)) (gN 3) [3] (rBin addD (rVar 2) (rVar 3))) aNil))))
def f_even_names : RF := rBody 4 b_even_names
theorem k_even_names {P : Program} {w : World} {K : PySem.W.Frag} {mg : Str → Option Value} {base : Heap} (M : MG mg) (T : Def K mg "even_names" st_even_names ["letters"]) : Kn P w K mg base 1 "even_names" ["letters"] f_even_names :=
  kn_of T sc_even_names fun f cdv A outer s H E hr gd => (by exact (dSs_cons (by exact (dS_set (i := 1) sc_even_names.nd rfl (by first | exact Or.inl rfl | exact Or.inr rfl) (by exact (dE_step (by decide) (by decide) (by exact (dE_var (i := 0)))))))
  (by exact (dSs_one (by exact (dS_ret (by exact (dE_clT call_tuple_of ok_tuple (by rfl) M.ztuple bo_tuple (by exact (dA_cons (by exact (dE_comp2 (own := [("a", 2), ("b", 3)]) (ts := [2]) (ts1 := [3]) (vs1 := [3]) rfl sc_even_names.nd (by exact (dI_str (by exact (dE_var (i := 1))))) (by show BlkOk ["letters", "half", "a", "b"] (defScope st_even_names) _ _; exact ⟨rfl, by decide +kernel, by decide +kernel, by decide +kernel, by decide +kernel⟩) (fun _ _ _ _ _ => by exact (dG_name (i := 2) sc_even_names.nd rfl (by first | exact Or.inl rfl | exact Or.inr rfl))) (fun _ _ _ _ _ => by exact (dI_str (by exact (dE_var (i := 1))))) (fun _ _ _ _ _ => by exact (dG_name (i := 3) sc_even_names.nd rfl (by first | exact Or.inl rfl | exact Or.inr rfl))) (fun _ _ _ _ _ => by exact (dE_bin op_addA ok_add (by exact (dE_var (i := 2))) (by exact (dE_var (i := 3))))))) (by exact dA_nil)))))))))))
abbrev st_seconds_count : Stmt := topS 24
theorem sc_seconds_count : FnScope ["q", "x", "half"] ["q", "x"] (defScope st_seconds_count) := ⟨rfl, rfl, rfl, by decide +kernel, rfl, by decide +kernel, by decide +kernel⟩
def b_seconds_count : RS := (rSeq (rSet 2 (rBin fdivD (rVar 0) (rC (.int 2))))
  (rRet (rBin addD (rBin fdivD (rVar 2) (rC (.int 2))) (rBin mulD (rBin modD (rVar 2) (rC (.int 2))) (rBin modD (rVar 1) (rC (.int 2)))))))
def f_seconds_count : RF := rBody 3 b_seconds_count
theorem k_seconds_count {P : Program} {w : World} {K : PySem.W.Frag} {mg : Str → Option Value} {base : Heap} (M : MG mg) (T : Def K mg "seconds_count" st_seconds_count ["q", "x"]) : Kn P w K mg base 1 "seconds_count" ["q", "x"] f_seconds_count :=
  kn_of T sc_seconds_count fun f cdv A outer s H E hr gd => (by exact (dSs_cons (by exact (dS_set (i := 2) sc_seconds_count.nd rfl (by first | exact Or.inl rfl | exact Or.inr rfl) (by exact (dE_bin op_fdivW ok_fdiv (by exact (dE_var (i := 0))) (by exact dE_int)))))
  (by exact (dSs_one (by exact (dS_ret (by exact (dE_bin op_addA ok_add (by exact (dE_bin op_fdivW ok_fdiv (by exact (dE_var (i := 2))) (by exact dE_int))) (by exact (dE_bin op_mulW ok_mul (by exact (dE_bin op_mod ok_mod (by exact (dE_var (i := 2))) (by exact dE_int))) (by exact (dE_bin op_mod ok_mod (by exact (dE_var (i := 1))) (by exact dE_int)))))))))))))
abbrev st_ring_names : Stmt := topS 25
theorem sc_ring_names : FnScope ["letters", "q", "names", "at", "x", "many", "z", "j"] ["letters"] (defScope st_ring_names) := ⟨rfl, rfl, rfl, by decide +kernel, rfl, by decide +kernel, by decide +kernel⟩
def b_ring_names : RS := (rSeq (rDrop (rCall 1 f_check_ring (aCons (rVar 0) aNil)))
  (rSeq (rSet 1 (rCl lenD (aCons (rVar 0) aNil)))
  (rSeq (rIf (rBin eqD (rBin modD (rVar 1) (rC (.int 2))) (rC (.int 0)))
  (rRet (rCall 1 f_even_names (aCons (rVar 0) aNil)))
  rNext)
  (rSeq (rOwn 2 aNil)
  (rSeq (rSet 3 (rC (.int 0)))
  (rSeq (rFor (iRg1 (aCons (rVar 1) aNil)) (gN 4)
  (rSeq (rSet 5 (rCall 2 f_seconds_count (aCons (rVar 1) (aCons (rVar 4) aNil))))
  (rSeq (rFor (iLst (rCl sortedD (aCons (rComp (iRg2 (aCons (rVar 3) (aCons (rBin addD (rVar 3) (rVar 5)) aNil))) (gN 7) [7] (rC (.bool true)) (rBin modD (rBin mulD (rC (.int 2)) (rVar 7)) (rVar 1))) aNil))) (gN 6)
  (rApp 2 (rBin addD (rBin ixD (rVar 0) (rVar 4)) (rBin ixD (rVar 0) (rVar 6)))))
  (rAug 3 addI (rVar 5)))))
  (rFrz 2 (rRet (rCl tupleD (aCons (rVar 2) aNil))))))))))
def f_ring_names : RF := rBody 8 b_ring_names
theorem k_ring_names {P : Program} {w : World} {K : PySem.W.Frag} {mg : Str → Option Value} {base : Heap} (M : MG mg) (T : Def K mg "ring_names" st_ring_names ["letters"]) (k_check_ring : Kn P w K mg base 5 "check_ring" ["letters"] f_check_ring) (k_even_names : Kn P w K mg base 1 "even_names" ["letters"] f_even_names) (k_seconds_count : Kn P w K mg base 1 "seconds_count" ["q", "x"] f_seconds_count) : Kn P w K mg base 6 "ring_names" ["letters"] f_ring_names :=
  kn_of T sc_ring_names fun f cdv A outer s H E hr gd => (by exact (dSs_cons (by exact (dS_expr (by exact (dE_kn k_check_ring (hr.mono (by decide)) gd (L2N.takes_of rfl rfl rfl rfl) (by exact (dA_cons (by exact (dE_var (i := 0))) (by exact dA_nil)))))))
  (by exact (dSs_cons (by exact (dS_set (i := 1) sc_ring_names.nd rfl (by first | exact Or.inl rfl | exact Or.inr rfl) (by exact (dE_clB call_len ok_len (by rfl) M.zlen bo_len (by exact (dA_cons (by exact (dE_var (i := 0))) (by exact dA_nil)))))))
  (by exact (dSs_cons (by exact (dS_if (by exact (dT_cmp (op_eqD (hr.units)) ok_eq (by exact (dE_bin op_mod ok_mod (by exact (dE_var (i := 1))) (by exact dE_int))) (by exact dE_int) (by with_unfolding_all rfl)))
  (by exact (dSs_one (by exact (dS_ret (by exact (dE_kn k_even_names (hr.mono (by decide)) gd (L2N.takes_of rfl rfl rfl rfl) (by exact (dA_cons (by exact (dE_var (i := 0))) (by exact dA_nil)))))))))
  (by exact dSs_nil)))
  (by exact (dSs_cons (by exact (dS_own (i := 2) sc_ring_names.nd rfl (by first | exact Or.inl rfl | exact Or.inr rfl) (by exact dA_nil)))
  (by exact (dSs_cons (by exact (dS_set (i := 3) sc_ring_names.nd rfl (by first | exact Or.inl rfl | exact Or.inr rfl) (by exact dE_int)))
  (by exact (dSs_cons (by exact (dS_for (L2.passes_of rfl) rfl (by exact (dI_rg1 (by rfl) M.zrange (by exact (dA_cons (by exact (dE_var (i := 1))) (by exact dA_nil))))) (by exact (dG_name (i := 4) sc_ring_names.nd rfl (by first | exact Or.inl rfl | exact Or.inr rfl)))
  (by exact (dSs_cons (by exact (dS_set (i := 5) sc_ring_names.nd rfl (by first | exact Or.inl rfl | exact Or.inr rfl) (by exact (dE_kn k_seconds_count (hr.mono (by decide)) gd (L2N.takes_of rfl rfl rfl rfl) (by exact (dA_cons (by exact (dE_var (i := 1))) (by exact (dA_cons (by exact (dE_var (i := 4))) (by exact dA_nil)))))))))
  (by exact (dSs_cons (by exact (dS_for (L2.passes_of rfl) rfl (by exact (dI_list (by exact (dE_clB cr_sortedI ok_sorted (by rfl) M.zsorted bo_sorted (by exact (dA_cons (by exact (dE_comp (own := [("j", 7)]) (ts := [7]) rfl sc_ring_names.nd (by exact (dI_rg2 (by rfl) M.zrange (by exact (dA_cons (by exact (dE_var (i := 3))) (by exact (dA_cons (by exact (dE_bin op_addA ok_add (by exact (dE_var (i := 3))) (by exact (dE_var (i := 5))))) (by exact dA_nil))))))) (by show BlkOk ["letters", "q", "names", "at", "x", "many", "z", "j"] (defScope st_ring_names) _ _; exact ⟨rfl, by decide +kernel, by decide +kernel, by decide +kernel, by decide +kernel⟩) (fun _ _ _ _ _ => by exact (dG_name (i := 7) sc_ring_names.nd rfl (by first | exact Or.inl rfl | exact Or.inr rfl))) (fun _ _ _ _ _ => by exact dTs_nil) (fun _ _ _ _ _ => by exact (dE_bin op_mod ok_mod (by exact (dE_bin op_mulW ok_mul (by exact dE_int) (by exact (dE_var (i := 7))))) (by exact (dE_var (i := 1))))))) (by exact dA_nil))))))) (by exact (dG_name (i := 6) sc_ring_names.nd rfl (by first | exact Or.inl rfl | exact Or.inr rfl)))
  (by exact (dSs_one (by exact (dS_app (i := 2) (by exact (dE_bin op_addA ok_add (by exact (dE_ix ix_seq ok_ix (by exact (dE_var (i := 0))) (by exact (dE_var (i := 4))) (fun _ _ => rfl))) (by exact (dE_ix ix_seq ok_ix (by exact (dE_var (i := 0))) (by exact (dE_var (i := 6))) (fun _ _ => rfl)))))))))))
  (by exact (dSs_one (by exact (dS_aug (i := 3) sc_ring_names.nd rfl (by first | exact Or.inl rfl | exact Or.inr rfl) (by exact (dE_var (i := 5))) ip_add ok_ip))))))))))
  (by exact (dSs_one (by exact (dS_frz 2 (by exact (dS_ret (by exact (dE_clT call_tuple_of ok_tuple (by rfl) M.ztuple bo_tuple (by exact (dA_cons (by exact (dE_var (i := 2))) (by exact dA_nil)))))))))))))))))))))))
abbrev st_is_int : Stmt := topS 10
theorem sc_is_int : FnScope ["x"] ["x"] (defScope st_is_int) := ⟨rfl, rfl, rfl, by decide +kernel, rfl, by decide +kernel, by decide +kernel⟩
def b_is_int : RS := (rRet (rAnd (rUn (isiD isIntD) (rVar 0)) (rNot (rUn (isiD isBoolD) (rVar 0)))))
def f_is_int : RF := rBody 1 b_is_int
theorem k_is_int {P : Program} {w : World} {K : PySem.W.Frag} {mg : Str → Option Value} {base : Heap} (M : MG mg) (T : Def K mg "is_int" st_is_int ["x"]) : Kn P w K mg base 1 "is_int" ["x"] f_is_int :=
  kn_of T sc_is_int fun f cdv A outer s H E hr gd => (by exact (dSs_one (by exact (dS_ret (by exact (dE_and (by exact (dE_isi kit_int (by rfl) M.zisinstance (by rfl) M.zint bo_int (by exact (dE_var (i := 0))))) (by exact (dE_one (by exact (dE_not (by exact (dE_isi kit_bool (by rfl) M.zisinstance (by rfl) M.zbool bo_bool (by exact (dE_var (i := 0)))))))))))))))
abbrev st_check_number : Stmt := topS 13
theorem sc_check_number : FnScope ["x", "least"] ["x", "least"] (defScope st_check_number) := ⟨rfl, rfl, rfl, by decide +kernel, rfl, by decide +kernel, by decide +kernel⟩
def b_check_number : RS := (rSeq (rIf (rOr (rNot (rCall 1 f_is_int (aCons (rVar 0) aNil))) (rBin (cmpD fun i j => decide (i < j)) (rVar 0) (rVar 1)))
  (rRaise "BadNumber" (rCall 1 f_plain_form (aCons (rVar 0) aNil)))
  rNext)
  (rRet (rVar 0)))
def f_check_number : RF := rBody 2 b_check_number
theorem k_check_number {P : Program} {w : World} {K : PySem.W.Frag} {mg : Str → Option Value} {base : Heap} (M : MG mg) (T : Def K mg "check_number" st_check_number ["x", "least"]) (k_is_int : Kn P w K mg base 1 "is_int" ["x"] f_is_int) (k_plain_form : Kn P w K mg base 3 "plain_form" ["x"] f_plain_form) (XK : XcK K mg P w base knX "DisguiseError") : Kn P w K mg base 4 "check_number" ["x", "least"] f_check_number :=
  kn_of T sc_check_number fun f cdv A outer s H E hr gd => (by exact (dSs_cons (by exact (dS_if (by exact (dT_pw (by exact (dW_or (by exact (dT_not (by exact (dT_val (by exact (dE_kn k_is_int (hr.mono (by decide)) gd (L2N.takes_of rfl rfl rfl rfl) (by exact (dA_cons (by exact (dE_var (i := 0))) (by exact dA_nil))))))))) (by exact (dW_or1 (by exact (dT_cmp op_lt ok_cmp (by exact (dE_var (i := 0))) (by exact (dE_var (i := 1))) (by with_unfolding_all rfl)))))))))
  (by exact (dSs_one (by exact (dS_raiseK XK (x := "BadNumber") (by decide) rfl (hr.mono (by decide)) (L2N.takes_of rfl rfl rfl rfl) (by exact (dE_kn k_plain_form (hr.mono (by decide)) gd (L2N.takes_of rfl rfl rfl rfl) (by exact (dA_cons (by exact (dE_var (i := 0))) (by exact dA_nil)))))))))
  (by exact dSs_nil)))
  (by exact (dSs_one (by exact (dS_ret (by exact (dE_var (i := 0)))))))))
abbrev st_ring_bound : Stmt := topS 21
theorem sc_ring_bound : FnScope ["q", "many"] ["q", "many"] (defScope st_ring_bound) := ⟨rfl, rfl, rfl, by decide +kernel, rfl, by decide +kernel, by decide +kernel⟩
def b_ring_bound : RS := (rSeq (rDrop (rCall 2 f_check_number (aCons (rVar 0) (aCons (rC (.int 3)) aNil))))
  (rSeq (rDrop (rCall 2 f_check_number (aCons (rVar 1) (aCons (rC (.int 0)) aNil))))
  (rRet (rBin fdivD (rBin mulD (rVar 0) (rVar 1)) (rC (.int 2))))))
def f_ring_bound : RF := rBody 2 b_ring_bound
theorem k_ring_bound {P : Program} {w : World} {K : PySem.W.Frag} {mg : Str → Option Value} {base : Heap} (M : MG mg) (T : Def K mg "ring_bound" st_ring_bound ["q", "many"]) (k_check_number : Kn P w K mg base 4 "check_number" ["x", "least"] f_check_number) : Kn P w K mg base 5 "ring_bound" ["q", "many"] f_ring_bound :=
  kn_of T sc_ring_bound fun f cdv A outer s H E hr gd => (by exact (dSs_cons (by exact (dS_expr (by exact (dE_kn k_check_number (hr.mono (by decide)) gd (L2N.takes_of rfl rfl rfl rfl) (by exact (dA_cons (by exact (dE_var (i := 0))) (by exact (dA_cons (by exact (dE_gI M.cLEAST_RING)) (by exact dA_nil)))))))))
  (by exact (dSs_cons (by exact (dS_expr (by exact (dE_kn k_check_number (hr.mono (by decide)) gd (L2N.takes_of rfl rfl rfl rfl) (by exact (dA_cons (by exact (dE_var (i := 1))) (by exact (dA_cons (by exact dE_int) (by exact dA_nil)))))))))
  (by exact (dSs_one (by exact (dS_ret (by exact (dE_bin op_fdivW ok_fdiv (by exact (dE_bin op_mulW ok_mul (by exact (dE_var (i := 0))) (by exact (dE_var (i := 1))))) (by exact dE_int)))))))))))
abbrev st_ring_most : Stmt := topS 22
theorem sc_ring_most : FnScope ["q"] ["q"] (defScope st_ring_most) := ⟨rfl, rfl, rfl, by decide +kernel, rfl, by decide +kernel, by decide +kernel⟩
def b_ring_most : RS := (rSeq (rDrop (rCall 2 f_check_number (aCons (rVar 0) (aCons (rC (.int 3)) aNil))))
  (rRet (rBin fdivD (rBin mulD (rVar 0) (rBin fdivD (rVar 0) (rC (.int 2)))) (rC (.int 2)))))
def f_ring_most : RF := rBody 1 b_ring_most
theorem k_ring_most {P : Program} {w : World} {K : PySem.W.Frag} {mg : Str → Option Value} {base : Heap} (M : MG mg) (T : Def K mg "ring_most" st_ring_most ["q"]) (k_check_number : Kn P w K mg base 4 "check_number" ["x", "least"] f_check_number) : Kn P w K mg base 5 "ring_most" ["q"] f_ring_most :=
  kn_of T sc_ring_most fun f cdv A outer s H E hr gd => (by exact (dSs_cons (by exact (dS_expr (by exact (dE_kn k_check_number (hr.mono (by decide)) gd (L2N.takes_of rfl rfl rfl rfl) (by exact (dA_cons (by exact (dE_var (i := 0))) (by exact (dA_cons (by exact (dE_gI M.cLEAST_RING)) (by exact dA_nil)))))))))
  (by exact (dSs_one (by exact (dS_ret (by exact (dE_bin op_fdivW ok_fdiv (by exact (dE_bin op_mulW ok_mul (by exact (dE_var (i := 0))) (by exact (dE_bin op_fdivW ok_fdiv (by exact (dE_var (i := 0))) (by exact dE_int))))) (by exact dE_int)))))))))
abbrev st_power_of : Stmt := topS 16
theorem sc_power_of : FnScope ["base", "m", "number", "_"] ["base", "m"] (defScope st_power_of) := ⟨rfl, rfl, rfl, by decide +kernel, rfl, by decide +kernel, by decide +kernel⟩
def b_power_of : RS := (rSeq (rSet 2 (rC (.int 1)))
  (rSeq (rFor (iRg1 (aCons (rVar 1) aNil)) (gN 3)
  (rSet 2 (rBin mulD (rVar 2) (rVar 0))))
  (rRet (rVar 2))))
def f_power_of : RF := rBody 4 b_power_of
theorem k_power_of {P : Program} {w : World} {K : PySem.W.Frag} {mg : Str → Option Value} {base : Heap} (M : MG mg) (T : Def K mg "power_of" st_power_of ["base", "m"]) : Kn P w K mg base 1 "power_of" ["base", "m"] f_power_of :=
  kn_of T sc_power_of fun f cdv A outer s H E hr gd => (by exact (dSs_cons (by exact (dS_set (i := 2) sc_power_of.nd rfl (by first | exact Or.inl rfl | exact Or.inr rfl) (by exact dE_int)))
  (by exact (dSs_cons (by exact (dS_for (L2.passes_of rfl) rfl (by exact (dI_rg1 (by rfl) M.zrange (by exact (dA_cons (by exact (dE_var (i := 1))) (by exact dA_nil))))) (by exact (dG_name (i := 3) sc_power_of.nd rfl (by first | exact Or.inl rfl | exact Or.inr rfl)))
  (by exact (dSs_one (by exact (dS_set (i := 2) sc_power_of.nd rfl (by first | exact Or.inl rfl | exact Or.inr rfl) (by exact (dE_bin op_mulW ok_mul (by exact (dE_var (i := 2))) (by exact (dE_var (i := 0)))))))))))
  (by exact (dSs_one (by exact (dS_ret (by exact (dE_var (i := 2)))))))))))
abbrev st_even_most : Stmt := topS 26
theorem sc_even_most : FnScope ["q", "m"] ["q", "m"] (defScope st_even_most) := ⟨rfl, rfl, rfl, by decide +kernel, rfl, by decide +kernel, by decide +kernel⟩
def b_even_most : RS := (rSeq (rDrop (rCall 2 f_check_number (aCons (rVar 0) (aCons (rC (.int 3)) aNil))))
  (rSeq (rDrop (rCall 2 f_check_number (aCons (rVar 1) (aCons (rC (.int 0)) aNil))))
  (rSeq (rIf (rBin eqD (rBin modD (rVar 0) (rC (.int 2))) (rC (.int 1)))
  (rRaise "BadCase" (rC (.str "odd")))
  rNext)
  (rRet (rCall 2 f_power_of (aCons (rBin fdivD (rVar 0) (rC (.int 2))) (aCons (rVar 1) aNil)))))))
def f_even_most : RF := rBody 2 b_even_most
theorem k_even_most {P : Program} {w : World} {K : PySem.W.Frag} {mg : Str → Option Value} {base : Heap} (M : MG mg) (T : Def K mg "even_most" st_even_most ["q", "m"]) (k_check_number : Kn P w K mg base 4 "check_number" ["x", "least"] f_check_number) (k_power_of : Kn P w K mg base 1 "power_of" ["base", "m"] f_power_of) (XK : XcK K mg P w base knX "DisguiseError") : Kn P w K mg base 5 "even_most" ["q", "m"] f_even_most :=
  kn_of T sc_even_most fun f cdv A outer s H E hr gd => (by exact (dSs_cons (by exact (dS_expr (by exact (dE_kn k_check_number (hr.mono (by decide)) gd (L2N.takes_of rfl rfl rfl rfl) (by exact (dA_cons (by exact (dE_var (i := 0))) (by exact (dA_cons (by exact (dE_gI M.cLEAST_RING)) (by exact dA_nil)))))))))
  (by exact (dSs_cons (by exact (dS_expr (by exact (dE_kn k_check_number (hr.mono (by decide)) gd (L2N.takes_of rfl rfl rfl rfl) (by exact (dA_cons (by exact (dE_var (i := 1))) (by exact (dA_cons (by exact dE_int) (by exact dA_nil)))))))))
  (by exact (dSs_cons (by exact (dS_if (by exact (dT_cmp (op_eqD (hr.units)) ok_eq (by exact (dE_bin op_mod ok_mod (by exact (dE_var (i := 0))) (by exact dE_int))) (by exact dE_int) (by with_unfolding_all rfl)))
  (by exact (dSs_one (by exact (dS_raiseK XK (x := "BadCase") (by decide) rfl (hr.mono (by decide)) (L2N.takes_of rfl rfl rfl rfl) (by exact dE_str)))))
  (by exact dSs_nil)))
  (by exact (dSs_one (by exact (dS_ret (by exact (dE_kn k_power_of (hr.mono (by decide)) gd (L2N.takes_of rfl rfl rfl rfl) (by exact (dA_cons (by exact (dE_bin op_fdivW ok_fdiv (by exact (dE_var (i := 0))) (by exact dE_int))) (by exact (dA_cons (by exact (dE_var (i := 1))) (by exact dA_nil)))))))))))))))))
abbrev st__law_word_of : Stmt := topS 40
theorem sc__law_word_of : FnScope ["kind", "one", "two", "raised", "word", "at"] ["kind", "one", "two"] (defScope st__law_word_of) := ⟨rfl, rfl, rfl, by decide +kernel, rfl, by decide +kernel, by decide +kernel⟩
def b__law_word_of : RS := (rSeq (rAsg (rTup (aCons (rC (.str "none")) (aCons (rC .none) aNil))) (gT 2 (gsCons (gN 4) (gsCons (gN 5) gsNil))))
  (rSeq (rTry knX (rIf (rBin eqD (rVar 0) (rC (.int 0)))
  (rDrop (rCall 1 f_ring_pairs (aCons (rVar 1) aNil)))
  (rIf (rBin eqD (rVar 0) (rC (.int 1)))
  (rDrop (rCall 1 f_ring_names (aCons (rVar 1) aNil)))
  (rIf (rBin eqD (rVar 0) (rC (.int 2)))
  (rDrop (rCall 2 f_ring_bound (aCons (rVar 1) (aCons (rVar 2) aNil))))
  (rIf (rBin eqD (rVar 0) (rC (.int 3)))
  (rDrop (rCall 1 f_ring_most (aCons (rVar 1) aNil)))
  (rDrop (rCall 2 f_even_most (aCons (rVar 1) (aCons (rVar 2) aNil)))))))) (.nm "BadLetters" 3 4 5 "letters" :: (.nm "BadNumber" 3 4 5 "number" :: (.nm "BadCase" 3 4 5 "case" :: (.al "DisguiseError" 4 "other" :: [])))))
  (rRet (rUn reprD (rTup (aCons (rVar 4) (aCons (rVar 5) aNil)))))))
def f__law_word_of : RF := rBody 6 b__law_word_of
theorem k__law_word_of {P : Program} {w : World} {K : PySem.W.Frag} {mg : Str → Option Value} {base : Heap} (M : MG mg) (T : Def K mg "_law_word_of" st__law_word_of ["kind", "one", "two"]) (k_ring_pairs : Kn P w K mg base 6 "ring_pairs" ["letters"] f_ring_pairs) (k_ring_names : Kn P w K mg base 6 "ring_names" ["letters"] f_ring_names) (k_ring_bound : Kn P w K mg base 5 "ring_bound" ["q", "many"] f_ring_bound) (k_ring_most : Kn P w K mg base 5 "ring_most" ["q"] f_ring_most) (k_even_most : Kn P w K mg base 5 "even_most" ["q", "m"] f_even_most) (XK : XcK K mg P w base knX "DisguiseError") : Kn P w K mg base 7 "_law_word_of" ["kind", "one", "two"] f__law_word_of :=
  kn_of T sc__law_word_of fun f cdv A outer s H E hr gd => (by exact (dSs_cons (by exact (dS_asg (by exact (dE_tup (by exact (dA_cons (by exact dE_str) (by exact (dA_cons (by exact dE_non) (by exact dA_nil))))))) (by exact (dG_tup rfl (by exact (dGs_cons (by exact (dG_name (i := 4) sc__law_word_of.nd rfl (by first | exact Or.inl rfl | exact Or.inr rfl))) (by exact (dGs_cons (by exact (dG_name (i := 5) sc__law_word_of.nd rfl (by first | exact Or.inl rfl | exact Or.inr rfl))) (by exact dGs_nil)))))))))
  (by exact (dSs_cons (by exact (dS_tryK sc__law_word_of.nd (L2N.takes_of rfl rfl rfl rfl) (fun W pn xe tk po => (by exact (dSs_one (by exact (dS_if (by exact (dT_cmp (op_eqD (hr.units)) ok_eq (by exact (dE_var (i := 0))) (by exact dE_int) (by with_unfolding_all rfl)))
  (by exact (dSs_one (by exact (dS_expr (by exact (dE_kn k_ring_pairs (hr.mono (by decide)) gd tk (by exact (dA_cons (by exact (dE_var (i := 1))) (by exact dA_nil)))))))))
  (by exact (dSs_one (by exact (dS_if (by exact (dT_cmp (op_eqD (hr.units)) ok_eq (by exact (dE_var (i := 0))) (by exact dE_int) (by with_unfolding_all rfl)))
  (by exact (dSs_one (by exact (dS_expr (by exact (dE_kn k_ring_names (hr.mono (by decide)) gd tk (by exact (dA_cons (by exact (dE_var (i := 1))) (by exact dA_nil)))))))))
  (by exact (dSs_one (by exact (dS_if (by exact (dT_cmp (op_eqD (hr.units)) ok_eq (by exact (dE_var (i := 0))) (by exact dE_int) (by with_unfolding_all rfl)))
  (by exact (dSs_one (by exact (dS_expr (by exact (dE_kn k_ring_bound (hr.mono (by decide)) gd tk (by exact (dA_cons (by exact (dE_var (i := 1))) (by exact (dA_cons (by exact (dE_var (i := 2))) (by exact dA_nil)))))))))))
  (by exact (dSs_one (by exact (dS_if (by exact (dT_cmp (op_eqD (hr.units)) ok_eq (by exact (dE_var (i := 0))) (by exact dE_int) (by with_unfolding_all rfl)))
  (by exact (dSs_one (by exact (dS_expr (by exact (dE_kn k_ring_most (hr.mono (by decide)) gd tk (by exact (dA_cons (by exact (dE_var (i := 1))) (by exact dA_nil)))))))))
  (by exact (dSs_one (by exact (dS_expr (by exact (dE_kn k_even_most (hr.mono (by decide)) gd tk (by exact (dA_cons (by exact (dE_var (i := 1))) (by exact (dA_cons (by exact (dE_var (i := 2))) (by exact dA_nil)))))))))))))))))))))))))))) (by exact (cl_nm XK (r := 3) (i := 4) (j := 5) (by exact (cl_nm XK (r := 3) (i := 4) (j := 5) (by exact (cl_nm XK (r := 3) (i := 4) (j := 5) (by exact (cl_al XK (i := 4) (by exact cl_nil))) (by decide))) (by decide))) (by decide)))))
  (by exact (dSs_one (by exact (dS_ret (by exact (dE_repr gd hr.units (by rfl) M.zrepr (by exact (dE_tup (by exact (dA_cons (by exact (dE_var (i := 4))) (by exact (dA_cons (by exact (dE_var (i := 5))) (by exact dA_nil)))))))))))))))))
abbrev st__law_refused : Stmt := topS 41
theorem sc__law_refused : FnScope ["calls", "kind", "bad", "few", "one", "two", "word", "at"] [] (defScope st__law_refused) := ⟨rfl, rfl, rfl, by decide +kernel, rfl, by decide +kernel, by decide +kernel⟩
def b__law_refused : RS := (rSeq (rOwn 0 aNil)
  (rSeq (rFor (iRg1 (aCons (rC (.int 2)) aNil)) (gN 1)
  (rSeq (rFor (iTpl (rTup (aCons (rC (.str "")) (aCons (rC (.str "aa")) (aCons (rC (.str "abca")) (aCons (rC (.str "ab^")) (aCons (rC (.str "Abc")) (aCons (rC .none) (aCons (rC (.int 3)) (aCons (rTup (aCons (rC (.str "a")) (aCons (rC (.str "b")) (aCons (rC (.str "c")) aNil)))) (aCons (rC (.str "abcdefghijklm")) (aCons (rC (.bool true)) aNil)))))))))))) (gN 2)
  (rApp 0 (rTup (aCons (rVar 1) (aCons (rVar 2) (aCons (rC .none) (aCons (rC (.str "letters")) (aCons (rVar 2) aNil))))))))
  (rFor (iTpl (rTup (aCons (rC (.str "a")) (aCons (rC (.str "ba")) (aCons (rC (.str ".")) aNil))))) (gN 3)
  (rApp 0 (rTup (aCons (rVar 1) (aCons (rVar 3) (aCons (rC .none) (aCons (rC (.str "case")) (aCons (rC (.str "ring")) aNil))))))))))
  (rSeq (rFor (iTpl (rTup (aCons (rC (.int 2)) (aCons (rC (.int 0)) (aCons (rUn negD (rC (.int 1))) (aCons (rC (.bool true)) (aCons (rC .none) (aCons (rC (.str "3")) (aCons (rTup (aCons (rC (.int 3)) aNil)) (aCons (rC (.str "any")) aNil)))))))))) (gN 2)
  (rSeq (rApp 0 (rTup (aCons (rC (.int 2)) (aCons (rVar 2) (aCons (rC .none) (aCons (rC (.str "number")) (aCons (rVar 2) aNil)))))))
  (rSeq (rApp 0 (rTup (aCons (rC (.int 3)) (aCons (rVar 2) (aCons (rC .none) (aCons (rC (.str "number")) (aCons (rVar 2) aNil)))))))
  (rApp 0 (rTup (aCons (rC (.int 4)) (aCons (rVar 2) (aCons (rUn negD (rC (.int 1))) (aCons (rC (.str "number")) (aCons (rVar 2) aNil))))))))))
  (rSeq (rFor (iTpl (rTup (aCons (rUn negD (rC (.int 1))) (aCons (rC (.bool false)) (aCons (rC .none) (aCons (rC (.str "0")) (aCons (rC (.str "any")) aNil))))))) (gN 2)
  (rSeq (rApp 0 (rTup (aCons (rC (.int 2)) (aCons (rC (.int 3)) (aCons (rVar 2) (aCons (rC (.str "number")) (aCons (rVar 2) aNil)))))))
  (rSeq (rApp 0 (rTup (aCons (rC (.int 4)) (aCons (rC (.int 5)) (aCons (rVar 2) (aCons (rC (.str "number")) (aCons (rVar 2) aNil)))))))
  (rApp 0 (rTup (aCons (rC (.int 4)) (aCons (rC (.int 4)) (aCons (rVar 2) (aCons (rC (.str "number")) (aCons (rVar 2) aNil))))))))))
  (rSeq (rOwnCat 0 0 (aCons (rTup (aCons (rC (.int 4)) (aCons (rC (.int 3)) (aCons (rC (.int 0)) (aCons (rC (.str "case")) (aCons (rC (.str "odd")) aNil)))))) (aCons (rTup (aCons (rC (.int 4)) (aCons (rC (.int 7)) (aCons (rC (.int 2)) (aCons (rC (.str "case")) (aCons (rC (.str "odd")) aNil)))))) (aCons (rTup (aCons (rC (.int 4)) (aCons (rC (.int 4)) (aCons (rC (.int 0)) (aCons (rC (.str "none")) (aCons (rC .none) aNil)))))) aNil))))
  (rSeq (rApp 0 (rTup (aCons (rC (.int 2)) (aCons (rC (.int 3)) (aCons (rC (.int 0)) (aCons (rC (.str "none")) (aCons (rC .none) aNil)))))))
  (rSeq (rFrz 0 (rFor (iLst (rVar 0)) (gT 5 (gsCons (gN 1) (gsCons (gN 4) (gsCons (gN 5) (gsCons (gN 6) (gsCons (gN 7) gsNil))))))
  (rIf (rBin neD (rCall 3 f__law_word_of (aCons (rVar 1) (aCons (rVar 4) (aCons (rVar 5) aNil)))) (rUn reprD (rTup (aCons (rVar 6) (aCons (rVar 7) aNil)))))
  (rRet (rC (.bool false)))
  rNext)))
  (rRet (rC (.bool true))))))))))
def f__law_refused : RF := rBody 8 b__law_refused
theorem k__law_refused {P : Program} {w : World} {K : PySem.W.Frag} {mg : Str → Option Value} {base : Heap} (M : MG mg) (T : Def K mg "_law_refused" st__law_refused []) (k__law_word_of : Kn P w K mg base 7 "_law_word_of" ["kind", "one", "two"] f__law_word_of) : Kn P w K mg base 8 "_law_refused" [] f__law_refused :=
  kn_of T sc__law_refused fun f cdv A outer s H E hr gd => (by exact (dSs_cons (by exact (dS_own (i := 0) sc__law_refused.nd rfl (by first | exact Or.inl rfl | exact Or.inr rfl) (by exact dA_nil)))
  (by exact (dSs_cons (by exact (dS_for (L2.passes_of rfl) rfl (by exact (dI_rg1 (by rfl) M.zrange (by exact (dA_cons (by exact dE_int) (by exact dA_nil))))) (by exact (dG_name (i := 1) sc__law_refused.nd rfl (by first | exact Or.inl rfl | exact Or.inr rfl)))
  (by exact (dSs_cons (by exact (dS_for (L2.passes_of rfl) rfl (by exact (dI_tup (by exact (dE_tup (by exact (dA_cons (by exact dE_str) (by exact (dA_cons (by exact dE_str) (by exact (dA_cons (by exact dE_str) (by exact (dA_cons (by exact dE_str) (by exact (dA_cons (by exact dE_str) (by exact (dA_cons (by exact dE_non) (by exact (dA_cons (by exact dE_int) (by exact (dA_cons (by exact (dE_tup (by exact (dA_cons (by exact dE_str) (by exact (dA_cons (by exact dE_str) (by exact (dA_cons (by exact dE_str) (by exact dA_nil))))))))) (by exact (dA_cons (by exact dE_str) (by exact (dA_cons (by exact dE_bl) (by exact dA_nil))))))))))))))))))))))))) (by exact (dG_name (i := 2) sc__law_refused.nd rfl (by first | exact Or.inl rfl | exact Or.inr rfl)))
  (by exact (dSs_one (by exact (dS_app (i := 0) (by exact (dE_tup (by exact (dA_cons (by exact (dE_var (i := 1))) (by exact (dA_cons (by exact (dE_var (i := 2))) (by exact (dA_cons (by exact dE_non) (by exact (dA_cons (by exact dE_str) (by exact (dA_cons (by exact (dE_var (i := 2))) (by exact dA_nil)))))))))))))))))))
  (by exact (dSs_one (by exact (dS_for (L2.passes_of rfl) rfl (by exact (dI_tup (by exact (dE_tup (by exact (dA_cons (by exact dE_str) (by exact (dA_cons (by exact dE_str) (by exact (dA_cons (by exact dE_str) (by exact dA_nil))))))))))) (by exact (dG_name (i := 3) sc__law_refused.nd rfl (by first | exact Or.inl rfl | exact Or.inr rfl)))
  (by exact (dSs_one (by exact (dS_app (i := 0) (by exact (dE_tup (by exact (dA_cons (by exact (dE_var (i := 1))) (by exact (dA_cons (by exact (dE_var (i := 3))) (by exact (dA_cons (by exact dE_non) (by exact (dA_cons (by exact dE_str) (by exact (dA_cons (by exact dE_str) (by exact dA_nil)))))))))))))))))))))))))
  (by exact (dSs_cons (by exact (dS_for (L2.passes_of rfl) rfl (by exact (dI_tup (by exact (dE_tup (by exact (dA_cons (by exact dE_int) (by exact (dA_cons (by exact dE_int) (by exact (dA_cons (by exact (dE_un un_neg ok_neg (by exact dE_int))) (by exact (dA_cons (by exact dE_bl) (by exact (dA_cons (by exact dE_non) (by exact (dA_cons (by exact dE_str) (by exact (dA_cons (by exact (dE_tup (by exact (dA_cons (by exact dE_int) (by exact dA_nil))))) (by exact (dA_cons (by exact dE_str) (by exact dA_nil))))))))))))))))))))) (by exact (dG_name (i := 2) sc__law_refused.nd rfl (by first | exact Or.inl rfl | exact Or.inr rfl)))
  (by exact (dSs_cons (by exact (dS_app (i := 0) (by exact (dE_tup (by exact (dA_cons (by exact dE_int) (by exact (dA_cons (by exact (dE_var (i := 2))) (by exact (dA_cons (by exact dE_non) (by exact (dA_cons (by exact dE_str) (by exact (dA_cons (by exact (dE_var (i := 2))) (by exact dA_nil)))))))))))))))
  (by exact (dSs_cons (by exact (dS_app (i := 0) (by exact (dE_tup (by exact (dA_cons (by exact dE_int) (by exact (dA_cons (by exact (dE_var (i := 2))) (by exact (dA_cons (by exact dE_non) (by exact (dA_cons (by exact dE_str) (by exact (dA_cons (by exact (dE_var (i := 2))) (by exact dA_nil)))))))))))))))
  (by exact (dSs_one (by exact (dS_app (i := 0) (by exact (dE_tup (by exact (dA_cons (by exact dE_int) (by exact (dA_cons (by exact (dE_var (i := 2))) (by exact (dA_cons (by exact (dE_un un_neg ok_neg (by exact dE_int))) (by exact (dA_cons (by exact dE_str) (by exact (dA_cons (by exact (dE_var (i := 2))) (by exact dA_nil)))))))))))))))))))))))
  (by exact (dSs_cons (by exact (dS_for (L2.passes_of rfl) rfl (by exact (dI_tup (by exact (dE_tup (by exact (dA_cons (by exact (dE_un un_neg ok_neg (by exact dE_int))) (by exact (dA_cons (by exact dE_bl) (by exact (dA_cons (by exact dE_non) (by exact (dA_cons (by exact dE_str) (by exact (dA_cons (by exact dE_str) (by exact dA_nil))))))))))))))) (by exact (dG_name (i := 2) sc__law_refused.nd rfl (by first | exact Or.inl rfl | exact Or.inr rfl)))
  (by exact (dSs_cons (by exact (dS_app (i := 0) (by exact (dE_tup (by exact (dA_cons (by exact dE_int) (by exact (dA_cons (by exact dE_int) (by exact (dA_cons (by exact (dE_var (i := 2))) (by exact (dA_cons (by exact dE_str) (by exact (dA_cons (by exact (dE_var (i := 2))) (by exact dA_nil)))))))))))))))
  (by exact (dSs_cons (by exact (dS_app (i := 0) (by exact (dE_tup (by exact (dA_cons (by exact dE_int) (by exact (dA_cons (by exact dE_int) (by exact (dA_cons (by exact (dE_var (i := 2))) (by exact (dA_cons (by exact dE_str) (by exact (dA_cons (by exact (dE_var (i := 2))) (by exact dA_nil)))))))))))))))
  (by exact (dSs_one (by exact (dS_app (i := 0) (by exact (dE_tup (by exact (dA_cons (by exact dE_int) (by exact (dA_cons (by exact dE_int) (by exact (dA_cons (by exact (dE_var (i := 2))) (by exact (dA_cons (by exact dE_str) (by exact (dA_cons (by exact (dE_var (i := 2))) (by exact dA_nil)))))))))))))))))))))))
  (by exact (dSs_cons (by exact (dS_ownCat (i := 0) (j := 0) sc__law_refused.nd rfl (by first | exact Or.inl rfl | exact Or.inr rfl) rfl (by exact (dA_cons (by exact (dE_tup (by exact (dA_cons (by exact dE_int) (by exact (dA_cons (by exact dE_int) (by exact (dA_cons (by exact dE_int) (by exact (dA_cons (by exact dE_str) (by exact (dA_cons (by exact dE_str) (by exact dA_nil))))))))))))) (by exact (dA_cons (by exact (dE_tup (by exact (dA_cons (by exact dE_int) (by exact (dA_cons (by exact dE_int) (by exact (dA_cons (by exact dE_int) (by exact (dA_cons (by exact dE_str) (by exact (dA_cons (by exact dE_str) (by exact dA_nil))))))))))))) (by exact (dA_cons (by exact (dE_tup (by exact (dA_cons (by exact dE_int) (by exact (dA_cons (by exact dE_int) (by exact (dA_cons (by exact dE_int) (by exact (dA_cons (by exact dE_str) (by exact (dA_cons (by exact dE_non) (by exact dA_nil))))))))))))) (by exact dA_nil)))))))))
  (by exact (dSs_cons (by exact (dS_app (i := 0) (by exact (dE_tup (by exact (dA_cons (by exact dE_int) (by exact (dA_cons (by exact dE_int) (by exact (dA_cons (by exact dE_int) (by exact (dA_cons (by exact dE_str) (by exact (dA_cons (by exact dE_non) (by exact dA_nil)))))))))))))))
  (by exact (dSs_cons (by exact (dS_frz 0 (by exact (dS_for (L2.passes_of rfl) rfl (by exact (dI_list (by exact (dE_var (i := 0))))) (by exact (dG_tup rfl (by exact (dGs_cons (by exact (dG_name (i := 1) sc__law_refused.nd rfl (by first | exact Or.inl rfl | exact Or.inr rfl))) (by exact (dGs_cons (by exact (dG_name (i := 4) sc__law_refused.nd rfl (by first | exact Or.inl rfl | exact Or.inr rfl))) (by exact (dGs_cons (by exact (dG_name (i := 5) sc__law_refused.nd rfl (by first | exact Or.inl rfl | exact Or.inr rfl))) (by exact (dGs_cons (by exact (dG_name (i := 6) sc__law_refused.nd rfl (by first | exact Or.inl rfl | exact Or.inr rfl))) (by exact (dGs_cons (by exact (dG_name (i := 7) sc__law_refused.nd rfl (by first | exact Or.inl rfl | exact Or.inr rfl))) (by exact dGs_nil)))))))))))))
  (by exact (dSs_one (by exact (dS_if (by exact (dT_cmp (op_neD (hr.units)) ok_ne (by exact (dE_kn k__law_word_of (hr.mono (by decide)) gd (L2N.takes_of rfl rfl rfl rfl) (by exact (dA_cons (by exact (dE_var (i := 1))) (by exact (dA_cons (by exact (dE_var (i := 4))) (by exact (dA_cons (by exact (dE_var (i := 5))) (by exact dA_nil))))))))) (by exact (dE_repr gd hr.units (by rfl) M.zrepr (by exact (dE_tup (by exact (dA_cons (by exact (dE_var (i := 6))) (by exact (dA_cons (by exact (dE_var (i := 7))) (by exact dA_nil))))))))) (by with_unfolding_all rfl)))
  (by exact (dSs_one (by exact (dS_ret (by exact dE_bl)))))
  (by exact dSs_nil)))))))))
  (by exact (dSs_one (by exact (dS_ret (by exact dE_bl)))))))))))))))))))
abbrev st__law_pick : Stmt := topS 29
theorem sc__law_pick : FnScope ["purse", "many", "at"] ["purse", "many"] (defScope st__law_pick) := ⟨rfl, rfl, rfl, by decide +kernel, rfl, by decide +kernel, by decide +kernel⟩
def b__law_pick : RS := (rSeq (rSet 2 (rLook (rBin ixD (rVar 0) (rC (.int 0)))))
  (rSeq (rSetIt 0 (rC (.int 0)) (rBin addD (rVar 2) (rC (.int 1))))
  (rSeq (rIf (rLook (rBin (cmpD fun i j => decide (j ≤ i)) (rVar 2) (rCl lenD (aCons (rBin ixD (rVar 0) (rC (.int 1))) aNil))))
  (rRet (rC (.int 0)))
  rNext)
  (rRet (rLook (rBin modD (rBin ixD (rBin ixD (rVar 0) (rC (.int 1))) (rVar 2)) (rVar 1)))))))
def f__law_pick : RF := rBody 3 b__law_pick
theorem k__law_pick {P : Program} {w : World} {K : PySem.W.Frag} {mg : Str → Option Value} {base : Heap} (M : MG mg) (T : Def K mg "_law_pick" st__law_pick ["purse", "many"]) : Kn P w K mg base 1 "_law_pick" ["purse", "many"] f__law_pick :=
  kn_of T sc__law_pick fun f cdv A outer s H E hr gd => (by exact (dSs_cons (by exact (dS_set (i := 2) sc__law_pick.nd rfl (by first | exact Or.inl rfl | exact Or.inr rfl) (by exact (dE_look (by exact (dE_ix ix_seq ok_ix (by exact (dE_var (i := 0))) (by exact dE_int) (fun _ _ => rfl)))))))
  (by exact (dSs_cons (by exact (dS_setIt (i := 0) (by exact (dE_bin op_addA ok_add (by exact (dE_var (i := 2))) (by exact dE_int))) (by exact dE_int)))
  (by exact (dSs_cons (by exact (dS_if (by exact (dT_look (by exact (dT_cmp op_ge ok_cmp (by exact (dE_var (i := 2))) (by exact (dE_clB call_len ok_len (by rfl) M.zlen bo_len (by exact (dA_cons (by exact (dE_ix ix_seq ok_ix (by exact (dE_var (i := 0))) (by exact dE_int) (fun _ _ => rfl))) (by exact dA_nil))))) (by with_unfolding_all rfl)))))
  (by exact (dSs_one (by exact (dS_ret (by exact dE_int)))))
  (by exact dSs_nil)))
  (by exact (dSs_one (by exact (dS_ret (by exact (dE_look (by exact (dE_bin op_mod ok_mod (by exact (dE_ix ix_seq ok_ix (by exact (dE_ix ix_seq ok_ix (by exact (dE_var (i := 0))) (by exact dE_int) (fun _ _ => rfl))) (by exact (dE_var (i := 2))) (fun _ _ => rfl))) (by exact (dE_var (i := 1)))))))))))))))))
abbrev st__law_ring_letters : Stmt := topS 30
theorem sc__law_ring_letters : FnScope ["purse", "q", "base", "begin"] ["purse", "q"] (defScope st__law_ring_letters) := ⟨rfl, rfl, rfl, by decide +kernel, rfl, by decide +kernel, by decide +kernel⟩
def b__law_ring_letters : RS := (rSeq (rSet 2 (rBin ixD (rTup (aCons (rC (.str "abcdefghijkl")) (aCons (rC (.str "lkjihgfedcba")) (aCons (rC (.str "b0a1z.9-y!8x")) (aCons (rC (.str "qwertyuiop@+")) aNil))))) (rCall 2 f__law_pick (aOwn 0 (aCons (rC (.int 4)) aNil)))))
  (rSeq (rSet 3 (rCall 2 f__law_pick (aOwn 0 (aCons (rC (.int 12)) aNil))))
  (rRet (rSlc cutD (rBin addD (rSlc cutD (rVar 2) (rInt (rVar 3)) (rC .none)) (rSlc cutD (rVar 2) (rC .none) (rInt (rVar 3)))) (rC .none) (rInt (rVar 1))))))
def f__law_ring_letters : RF := rBody 4 b__law_ring_letters
theorem k__law_ring_letters {P : Program} {w : World} {K : PySem.W.Frag} {mg : Str → Option Value} {base : Heap} (M : MG mg) (T : Def K mg "_law_ring_letters" st__law_ring_letters ["purse", "q"]) (k__law_pick : Kn P w K mg base 1 "_law_pick" ["purse", "many"] f__law_pick) : Kn P w K mg base 2 "_law_ring_letters" ["purse", "q"] f__law_ring_letters :=
  kn_of T sc__law_ring_letters fun f cdv A outer s H E hr gd => (by exact (dSs_cons (by exact (dS_set (i := 2) sc__law_ring_letters.nd rfl (by first | exact Or.inl rfl | exact Or.inr rfl) (by exact (dE_ix ix_seq ok_ix (by exact (dE_tup (by exact (dA_cons (by exact dE_str) (by exact (dA_cons (by exact dE_str) (by exact (dA_cons (by exact dE_str) (by exact (dA_cons (by exact dE_str) (by exact dA_nil))))))))))) (by exact (dE_kn k__law_pick (hr.mono (by decide)) gd (L2N.takes_of rfl rfl rfl rfl) (by exact (dA_own (i := 0) (by exact (dA_cons (by exact dE_int) (by exact dA_nil))))))) (fun _ _ => rfl)))))
  (by exact (dSs_cons (by exact (dS_set (i := 3) sc__law_ring_letters.nd rfl (by first | exact Or.inl rfl | exact Or.inr rfl) (by exact (dE_kn k__law_pick (hr.mono (by decide)) gd (L2N.takes_of rfl rfl rfl rfl) (by exact (dA_own (i := 0) (by exact (dA_cons (by exact dE_int) (by exact dA_nil)))))))))
  (by exact (dSs_one (by exact (dS_ret (by exact (dE_slc sl_str ok_cut (by exact (dE_bin op_addA ok_add (by exact (dE_slc sl_str ok_cut (by exact (dE_var (i := 2))) (by exact (dO_some (by exact (dE_var (i := 3))))) (by exact dO_none))) (by exact (dE_slc sl_str ok_cut (by exact (dE_var (i := 2))) (by exact dO_none) (by exact (dO_some (by exact (dE_var (i := 3))))))))) (by exact dO_none) (by exact (dO_some (by exact (dE_var (i := 1)))))))))))))))
abbrev st__law_great : Stmt := topS 36
theorem sc__law_great : FnScope ["purse", "many", "number", "turn"] ["purse", "many"] (defScope st__law_great) := ⟨rfl, rfl, rfl, by decide +kernel, rfl, by decide +kernel, by decide +kernel⟩
def b__law_great : RS := (rSeq (rSet 2 (rC (.int 0)))
  (rSeq (rFor (iRg1 (aCons (rVar 1) aNil)) (gN 3)
  (rSet 2 (rBin addD (rBin mulD (rVar 2) (rC (.int 24))) (rCall 2 f__law_pick (aOwn 0 (aCons (rC (.int 24)) aNil))))))
  (rRet (rVar 2))))
def f__law_great : RF := rBody 4 b__law_great
theorem k__law_great {P : Program} {w : World} {K : PySem.W.Frag} {mg : Str → Option Value} {base : Heap} (M : MG mg) (T : Def K mg "_law_great" st__law_great ["purse", "many"]) (k__law_pick : Kn P w K mg base 1 "_law_pick" ["purse", "many"] f__law_pick) : Kn P w K mg base 2 "_law_great" ["purse", "many"] f__law_great :=
  kn_of T sc__law_great fun f cdv A outer s H E hr gd => (by exact (dSs_cons (by exact (dS_set (i := 2) sc__law_great.nd rfl (by first | exact Or.inl rfl | exact Or.inr rfl) (by exact dE_int)))
  (by exact (dSs_cons (by exact (dS_for (L2.passes_of rfl) rfl (by exact (dI_rg1 (by rfl) M.zrange (by exact (dA_cons (by exact (dE_var (i := 1))) (by exact dA_nil))))) (by exact (dG_name (i := 3) sc__law_great.nd rfl (by first | exact Or.inl rfl | exact Or.inr rfl)))
  (by exact (dSs_one (by exact (dS_set (i := 2) sc__law_great.nd rfl (by first | exact Or.inl rfl | exact Or.inr rfl) (by exact (dE_bin op_addA ok_add (by exact (dE_bin op_mulW ok_mul (by exact (dE_var (i := 2))) (by exact dE_int))) (by exact (dE_kn k__law_pick (hr.mono (by decide)) gd (L2N.takes_of rfl rfl rfl rfl) (by exact (dA_own (i := 0) (by exact (dA_cons (by exact dE_int) (by exact dA_nil)))))))))))))))
  (by exact (dSs_one (by exact (dS_ret (by exact (dE_var (i := 2)))))))))))
abbrev st__law_is_int : Stmt := topS 34
theorem sc__law_is_int : FnScope ["told", "due"] ["told", "due"] (defScope st__law_is_int) := ⟨rfl, rfl, rfl, by decide +kernel, rfl, by decide +kernel, by decide +kernel⟩
def b__law_is_int : RS := (rRet (rAnd (rUn (isiD isIntD) (rVar 0)) (rAnd (rNot (rUn (isiD isBoolD) (rVar 0))) (rBin eqD (rVar 0) (rVar 1)))))
def f__law_is_int : RF := rBody 2 b__law_is_int
theorem k__law_is_int {P : Program} {w : World} {K : PySem.W.Frag} {mg : Str → Option Value} {base : Heap} (M : MG mg) (T : Def K mg "_law_is_int" st__law_is_int ["told", "due"]) : Kn P w K mg base 1 "_law_is_int" ["told", "due"] f__law_is_int :=
  kn_of T sc__law_is_int fun f cdv A outer s H E hr gd => (by exact (dSs_one (by exact (dS_ret (by exact (dE_and (by exact (dE_isi kit_int (by rfl) M.zisinstance (by rfl) M.zint bo_int (by exact (dE_var (i := 0))))) (by exact (dE_and (by exact (dE_not (by exact (dE_isi kit_bool (by rfl) M.zisinstance (by rfl) M.zbool bo_bool (by exact (dE_var (i := 0))))))) (by exact (dE_one (by exact (dE_cmp (op_eqD (hr.units)) ok_eq (by exact (dE_var (i := 0))) (by exact (dE_var (i := 1))) (by with_unfolding_all rfl)))))))))))))
abbrev st__law_most : Stmt := topS 33
theorem sc__law_most : FnScope ["q", "half"] ["q"] (defScope st__law_most) := ⟨rfl, rfl, rfl, by decide +kernel, rfl, by decide +kernel, by decide +kernel⟩
def b__law_most : RS := (rSeq (rSet 1 (rBin fdivD (rVar 0) (rC (.int 2))))
  (rSeq (rIf (rBin eqD (rBin modD (rCl intD (aCons (rVar 0) aNil)) (rC (.int 2))) (rC (.int 0)))
  (rRet (rBin mulD (rVar 1) (rVar 1)))
  rNext)
  (rRet (rBin fdivD (rBin subD (rBin mulD (rVar 0) (rVar 1)) (rBin modD (rCl intD (aCons (rVar 1) aNil)) (rC (.int 2)))) (rC (.int 2))))))
def f__law_most : RF := rBody 2 b__law_most
theorem k__law_most {P : Program} {w : World} {K : PySem.W.Frag} {mg : Str → Option Value} {base : Heap} (M : MG mg) (T : Def K mg "_law_most" st__law_most ["q"]) : Kn P w K mg base 1 "_law_most" ["q"] f__law_most :=
  kn_of T sc__law_most fun f cdv A outer s H E hr gd => (by exact (dSs_cons (by exact (dS_set (i := 1) sc__law_most.nd rfl (by first | exact Or.inl rfl | exact Or.inr rfl) (by exact (dE_bin op_fdivW ok_fdiv (by exact (dE_var (i := 0))) (by exact dE_int)))))
  (by exact (dSs_cons (by exact (dS_if (by exact (dT_cmp (op_eqD (hr.units)) ok_eq (by exact (dE_bin op_mod ok_mod (by exact (dE_clT call_int1 ok_intc (by rfl) M.zint bo_int (by exact (dA_cons (by exact (dE_var (i := 0))) (by exact dA_nil))))) (by exact dE_int))) (by exact dE_int) (by with_unfolding_all rfl)))
  (by exact (dSs_one (by exact (dS_ret (by exact (dE_bin op_mulW ok_mul (by exact (dE_var (i := 1))) (by exact (dE_var (i := 1)))))))))
  (by exact dSs_nil)))
  (by exact (dSs_one (by exact (dS_ret (by exact (dE_bin op_fdivW ok_fdiv (by exact (dE_bin op_sub ok_sub (by exact (dE_bin op_mulW ok_mul (by exact (dE_var (i := 0))) (by exact (dE_var (i := 1))))) (by exact (dE_bin op_mod ok_mod (by exact (dE_clT call_int1 ok_intc (by rfl) M.zint bo_int (by exact (dA_cons (by exact (dE_var (i := 1))) (by exact dA_nil))))) (by exact dE_int))))) (by exact dE_int)))))))))))
abbrev st__law_numbers : Stmt := topS 37
theorem sc__law_numbers : FnScope ["q", "many", "m", "told", "due", "turn", "raised", "word", "at"] ["q", "many", "m"] (defScope st__law_numbers) := ⟨rfl, rfl, rfl, by decide +kernel, rfl, by decide +kernel, by decide +kernel⟩
def b__law_numbers : RS := (rSeq (rSet 3 (rCall 2 f_ring_bound (aCons (rVar 0) (aCons (rVar 1) aNil))))
  (rSeq (rIf (rOr (rNot (rUn (isiD isIntD) (rVar 3))) (rOr (rUn (isiD isBoolD) (rVar 3)) (rNot (rChain (cmpD fun i j => decide (i ≤ j)) (cmpD fun i j => decide (i < j)) (rBin mulD (rC (.int 2)) (rVar 3)) (rBin mulD (rVar 0) (rVar 1)) (rBin addD (rBin mulD (rC (.int 2)) (rVar 3)) (rC (.int 2)))))))
  (rRet (rC (.bool false)))
  rNext)
  (rSeq (rIf (rNot (rCall 2 f__law_is_int (aCons (rCall 1 f_ring_most (aCons (rVar 0) aNil)) (aCons (rCall 1 f__law_most (aCons (rVar 0) aNil)) aNil))))
  (rRet (rC (.bool false)))
  rNext)
  (rSeq (rSet 4 (rC (.int 1)))
  (rSeq (rFor (iRg1 (aCons (rVar 2) aNil)) (gN 5)
  (rSet 4 (rBin mulD (rVar 4) (rBin fdivD (rVar 0) (rC (.int 2))))))
  (rSeq (rAsg (rTup (aCons (rC (.str "none")) (aCons (rC .none) aNil))) (gT 2 (gsCons (gN 7) (gsCons (gN 8) gsNil))))
  (rSeq (rTry knX (rSet 3 (rCall 2 f_even_most (aCons (rVar 0) (aCons (rVar 2) aNil)))) (.nm "BadCase" 6 7 8 "case" :: (.al "DisguiseError" 7 "other" :: [])))
  (rSeq (rIf (rBin eqD (rBin modD (rCl intD (aCons (rVar 0) aNil)) (rC (.int 2))) (rC (.int 1)))
  (rRet (rBin eqD (rTup (aCons (rVar 7) (aCons (rVar 8) aNil))) (rTup (aCons (rC (.str "case")) (aCons (rC (.str "odd")) aNil)))))
  rNext)
  (rRet (rAnd (rBin eqD (rVar 7) (rC (.str "none"))) (rCall 2 f__law_is_int (aCons (rVar 3) (aCons (rVar 4) aNil)))))))))))))
def f__law_numbers : RF := rBody 9 b__law_numbers
theorem k__law_numbers {P : Program} {w : World} {K : PySem.W.Frag} {mg : Str → Option Value} {base : Heap} (M : MG mg) (T : Def K mg "_law_numbers" st__law_numbers ["q", "many", "m"]) (k_ring_bound : Kn P w K mg base 5 "ring_bound" ["q", "many"] f_ring_bound) (k_ring_most : Kn P w K mg base 5 "ring_most" ["q"] f_ring_most) (k_even_most : Kn P w K mg base 5 "even_most" ["q", "m"] f_even_most) (k__law_is_int : Kn P w K mg base 1 "_law_is_int" ["told", "due"] f__law_is_int) (k__law_most : Kn P w K mg base 1 "_law_most" ["q"] f__law_most) (XK : XcK K mg P w base knX "DisguiseError") : Kn P w K mg base 6 "_law_numbers" ["q", "many", "m"] f__law_numbers :=
  kn_of T sc__law_numbers fun f cdv A outer s H E hr gd => (by exact (dSs_cons (by exact (dS_set (i := 3) sc__law_numbers.nd rfl (by first | exact Or.inl rfl | exact Or.inr rfl) (by exact (dE_kn k_ring_bound (hr.mono (by decide)) gd (L2N.takes_of rfl rfl rfl rfl) (by exact (dA_cons (by exact (dE_var (i := 0))) (by exact (dA_cons (by exact (dE_var (i := 1))) (by exact dA_nil)))))))))
  (by exact (dSs_cons (by exact (dS_if (by exact (dT_pw (by exact (dW_or (by exact (dT_not (by exact (dT_val (by exact (dE_isi kit_int (by rfl) M.zisinstance (by rfl) M.zint bo_int (by exact (dE_var (i := 3))))))))) (by exact (dW_or (by exact (dT_val (by exact (dE_isi kit_bool (by rfl) M.zisinstance (by rfl) M.zbool bo_bool (by exact (dE_var (i := 3))))))) (by exact (dW_or1 (by exact (dT_not (by exact (dT_chain op_le ok_cmp op_lt ok_cmp (by exact (dE_bin op_mulW ok_mul (by exact dE_int) (by exact (dE_var (i := 3))))) (by exact (dE_bin op_mulW ok_mul (by exact (dE_var (i := 0))) (by exact (dE_var (i := 1))))) (by exact (dE_bin op_addA ok_add (by exact (dE_bin op_mulW ok_mul (by exact dE_int) (by exact (dE_var (i := 3))))) (by exact dE_int)))))))))))))))
  (by exact (dSs_one (by exact (dS_ret (by exact dE_bl)))))
  (by exact dSs_nil)))
  (by exact (dSs_cons (by exact (dS_if (by exact (dT_not (by exact (dT_val (by exact (dE_kn k__law_is_int (hr.mono (by decide)) gd (L2N.takes_of rfl rfl rfl rfl) (by exact (dA_cons (by exact (dE_kn k_ring_most (hr.mono (by decide)) gd (L2N.takes_of rfl rfl rfl rfl) (by exact (dA_cons (by exact (dE_var (i := 0))) (by exact dA_nil))))) (by exact (dA_cons (by exact (dE_kn k__law_most (hr.mono (by decide)) gd (L2N.takes_of rfl rfl rfl rfl) (by exact (dA_cons (by exact (dE_var (i := 0))) (by exact dA_nil))))) (by exact dA_nil)))))))))))
  (by exact (dSs_one (by exact (dS_ret (by exact dE_bl)))))
  (by exact dSs_nil)))
  (by exact (dSs_cons (by exact (dS_set (i := 4) sc__law_numbers.nd rfl (by first | exact Or.inl rfl | exact Or.inr rfl) (by exact dE_int)))
  (by exact (dSs_cons (by exact (dS_for (L2.passes_of rfl) rfl (by exact (dI_rg1 (by rfl) M.zrange (by exact (dA_cons (by exact (dE_var (i := 2))) (by exact dA_nil))))) (by exact (dG_name (i := 5) sc__law_numbers.nd rfl (by first | exact Or.inl rfl | exact Or.inr rfl)))
  (by exact (dSs_one (by exact (dS_set (i := 4) sc__law_numbers.nd rfl (by first | exact Or.inl rfl | exact Or.inr rfl) (by exact (dE_bin op_mulW ok_mul (by exact (dE_var (i := 4))) (by exact (dE_bin op_fdivW ok_fdiv (by exact (dE_var (i := 0))) (by exact dE_int)))))))))))
  (by exact (dSs_cons (by exact (dS_asg (by exact (dE_tup (by exact (dA_cons (by exact dE_str) (by exact (dA_cons (by exact dE_non) (by exact dA_nil))))))) (by exact (dG_tup rfl (by exact (dGs_cons (by exact (dG_name (i := 7) sc__law_numbers.nd rfl (by first | exact Or.inl rfl | exact Or.inr rfl))) (by exact (dGs_cons (by exact (dG_name (i := 8) sc__law_numbers.nd rfl (by first | exact Or.inl rfl | exact Or.inr rfl))) (by exact dGs_nil)))))))))
  (by exact (dSs_cons (by exact (dS_tryK sc__law_numbers.nd (L2N.takes_of rfl rfl rfl rfl) (fun W pn xe tk po => (by exact (dSs_one (by exact (dS_set (i := 3) sc__law_numbers.nd rfl (by first | exact Or.inl rfl | exact Or.inr rfl) (by exact (dE_kn k_even_most (hr.mono (by decide)) gd tk (by exact (dA_cons (by exact (dE_var (i := 0))) (by exact (dA_cons (by exact (dE_var (i := 2))) (by exact dA_nil)))))))))))) (by exact (cl_nm XK (r := 6) (i := 7) (j := 8) (by exact (cl_al XK (i := 7) (by exact cl_nil))) (by decide)))))
  (by exact (dSs_cons (by exact (dS_if (by exact (dT_cmp (op_eqD (hr.units)) ok_eq (by exact (dE_bin op_mod ok_mod (by exact (dE_clT call_int1 ok_intc (by rfl) M.zint bo_int (by exact (dA_cons (by exact (dE_var (i := 0))) (by exact dA_nil))))) (by exact dE_int))) (by exact dE_int) (by with_unfolding_all rfl)))
  (by exact (dSs_one (by exact (dS_ret (by exact (dE_cmp (op_eqD (hr.units)) ok_eq (by exact (dE_tup (by exact (dA_cons (by exact (dE_var (i := 7))) (by exact (dA_cons (by exact (dE_var (i := 8))) (by exact dA_nil))))))) (by exact (dE_tup (by exact (dA_cons (by exact dE_str) (by exact (dA_cons (by exact dE_str) (by exact dA_nil))))))) (by with_unfolding_all rfl)))))))
  (by exact dSs_nil)))
  (by exact (dSs_one (by exact (dS_ret (by exact (dE_and (by exact (dE_cmp (op_eqD (hr.units)) ok_eq (by exact (dE_var (i := 7))) (by exact dE_str) (by with_unfolding_all rfl))) (by exact (dE_one (by exact (dE_kn k__law_is_int (hr.mono (by decide)) gd (L2N.takes_of rfl rfl rfl rfl) (by exact (dA_cons (by exact (dE_var (i := 3))) (by exact (dA_cons (by exact (dE_var (i := 4))) (by exact dA_nil)))))))))))))))))))))))))))))))
abbrev st__law_pairs : Stmt := topS 39
theorem sc__law_pairs : FnScope ["letters", "found", "a", "b"] ["letters"] (defScope st__law_pairs) := ⟨rfl, rfl, rfl, by decide +kernel, rfl, by decide +kernel, by decide +kernel⟩
def b__law_pairs : RS := (rSeq (rSet 1 (rLst aNil))
  (rSeq (rFor (iTxt (rVar 0)) (gN 2)
  (rSet 1 (rBin addD (rVar 1) (rComp (iTxt (rVar 0)) (gN 3) [3] (rC (.bool true)) (rBin addD (rVar 2) (rVar 3))))))
  (rRet (rVar 1))))
def f__law_pairs : RF := rBody 4 b__law_pairs
theorem k__law_pairs {P : Program} {w : World} {K : PySem.W.Frag} {mg : Str → Option Value} {base : Heap} (M : MG mg) (T : Def K mg "_law_pairs" st__law_pairs ["letters"]) : Kn P w K mg base 1 "_law_pairs" ["letters"] f__law_pairs :=
  kn_of T sc__law_pairs fun f cdv A outer s H E hr gd => (by exact (dSs_cons (by exact (dS_set (i := 1) sc__law_pairs.nd rfl (by first | exact Or.inl rfl | exact Or.inr rfl) (by exact (dE_lst (by exact dA_nil)))))
  (by exact (dSs_cons (by exact (dS_for (L2.passes_of rfl) rfl (by exact (dI_str (by exact (dE_var (i := 0))))) (by exact (dG_name (i := 2) sc__law_pairs.nd rfl (by first | exact Or.inl rfl | exact Or.inr rfl)))
  (by exact (dSs_one (by exact (dS_set (i := 1) sc__law_pairs.nd rfl (by first | exact Or.inl rfl | exact Or.inr rfl) (by exact (dE_bin op_addA ok_add (by exact (dE_var (i := 1))) (by exact (dE_comp (own := [("b", 3)]) (ts := [3]) rfl sc__law_pairs.nd (by exact (dI_str (by exact (dE_var (i := 0))))) (by show BlkOk ["letters", "found", "a", "b"] (defScope st__law_pairs) _ _; exact ⟨rfl, by decide +kernel, by decide +kernel, by decide +kernel, by decide +kernel⟩) (fun _ _ _ _ _ => by exact (dG_name (i := 3) sc__law_pairs.nd rfl (by first | exact Or.inl rfl | exact Or.inr rfl))) (fun _ _ _ _ _ => by exact dTs_nil) (fun _ _ _ _ _ => by exact (dE_bin op_addA ok_add (by exact (dE_var (i := 2))) (by exact (dE_var (i := 3)))))))))))))))
  (by exact (dSs_one (by exact (dS_ret (by exact (dE_var (i := 1)))))))))))
abbrev st__law_near : Stmt := topS 31
theorem sc__law_near : FnScope ["letters", "a", "b", "q"] ["letters", "a", "b"] (defScope st__law_near) := ⟨rfl, rfl, rfl, by decide +kernel, rfl, by decide +kernel, by decide +kernel⟩
def b__law_near : RS := (rSeq (rSet 3 (rCl lenD (aCons (rVar 0) aNil)))
  (rRet (rBin (inD false) (rBin modD (rCl intD (aCons (rBin subD (rSidx (rVar 0) (rVar 1)) (rSidx (rVar 0) (rVar 2))) aNil)) (rVar 3)) (rTup (aCons (rC (.int 0)) (aCons (rC (.int 1)) (aCons (rBin subD (rVar 3) (rC (.int 1))) aNil)))))))
def f__law_near : RF := rBody 4 b__law_near
theorem k__law_near {P : Program} {w : World} {K : PySem.W.Frag} {mg : Str → Option Value} {base : Heap} (M : MG mg) (T : Def K mg "_law_near" st__law_near ["letters", "a", "b"]) : Kn P w K mg base 1 "_law_near" ["letters", "a", "b"] f__law_near :=
  kn_of T sc__law_near fun f cdv A outer s H E hr gd => (by exact (dSs_cons (by exact (dS_set (i := 3) sc__law_near.nd rfl (by first | exact Or.inl rfl | exact Or.inr rfl) (by exact (dE_clB call_len ok_len (by rfl) M.zlen bo_len (by exact (dA_cons (by exact (dE_var (i := 0))) (by exact dA_nil)))))))
  (by exact (dSs_one (by exact (dS_ret (by exact (dE_cmp op_inA ok_in (by exact (dE_bin op_mod ok_mod (by exact (dE_clT call_int1 ok_intc (by rfl) M.zint bo_int (by exact (dA_cons (by exact (dE_bin op_sub ok_sub (by exact (dE_sidx (by exact (dE_var (i := 0))) (by exact (dE_var (i := 1))))) (by exact (dE_sidx (by exact (dE_var (i := 0))) (by exact (dE_var (i := 2))))))) (by exact dA_nil))))) (by exact (dE_var (i := 3))))) (by exact (dE_tup (by exact (dA_cons (by exact dE_int) (by exact (dA_cons (by exact dE_int) (by exact (dA_cons (by exact (dE_bin op_sub ok_sub (by exact (dE_var (i := 3))) (by exact dE_int))) (by exact dA_nil))))))))) (by with_unfolding_all rfl)))))))))
abbrev st__law_two_near : Stmt := topS 32
theorem sc__law_two_near : FnScope ["letters", "one", "two"] ["letters", "one", "two"] (defScope st__law_two_near) := ⟨rfl, rfl, rfl, by decide +kernel, rfl, by decide +kernel, by decide +kernel⟩
def b__law_two_near : RS := (rRet (rAnd (rCall 3 f__law_near (aCons (rVar 0) (aCons (rBin ixD (rVar 1) (rC (.int 0))) (aCons (rBin ixD (rVar 2) (rC (.int 0))) aNil)))) (rCall 3 f__law_near (aCons (rVar 0) (aCons (rBin ixD (rVar 1) (rC (.int 1))) (aCons (rBin ixD (rVar 2) (rC (.int 1))) aNil))))))
def f__law_two_near : RF := rBody 3 b__law_two_near
theorem k__law_two_near {P : Program} {w : World} {K : PySem.W.Frag} {mg : Str → Option Value} {base : Heap} (M : MG mg) (T : Def K mg "_law_two_near" st__law_two_near ["letters", "one", "two"]) (k__law_near : Kn P w K mg base 1 "_law_near" ["letters", "a", "b"] f__law_near) : Kn P w K mg base 2 "_law_two_near" ["letters", "one", "two"] f__law_two_near :=
  kn_of T sc__law_two_near fun f cdv A outer s H E hr gd => (by exact (dSs_one (by exact (dS_ret (by exact (dE_and (by exact (dE_kn k__law_near (hr.mono (by decide)) gd (L2N.takes_of rfl rfl rfl rfl) (by exact (dA_cons (by exact (dE_var (i := 0))) (by exact (dA_cons (by exact (dE_ix ix_seq ok_ix (by exact (dE_var (i := 1))) (by exact dE_int) (fun _ _ => rfl))) (by exact (dA_cons (by exact (dE_ix ix_seq ok_ix (by exact (dE_var (i := 2))) (by exact dE_int) (fun _ _ => rfl))) (by exact dA_nil))))))))) (by exact (dE_one (by exact (dE_kn k__law_near (hr.mono (by decide)) gd (L2N.takes_of rfl rfl rfl rfl) (by exact (dA_cons (by exact (dE_var (i := 0))) (by exact (dA_cons (by exact (dE_ix ix_seq ok_ix (by exact (dE_var (i := 1))) (by exact dE_int) (fun _ _ => rfl))) (by exact (dA_cons (by exact (dE_ix ix_seq ok_ix (by exact (dE_var (i := 2))) (by exact dE_int) (fun _ _ => rfl))) (by exact dA_nil)))))))))))))))))
abbrev st__law_trying : Stmt := topS 38
theorem sc__law_trying : FnScope ["names", "lots", "size", "longer", "lot", "begin", "k", "i"] [] (defScope st__law_trying) := ⟨rfl, rfl, rfl, by decide +kernel, rfl, by decide +kernel, by decide +kernel⟩
def b__law_trying : RS := (rSeq (rSet 0 (rCall 1 f__law_pairs (aCons (rC (.str "abcde")) aNil)))
  (rSeq (rSet 1 (rLst (aCons (rTup aNil) aNil)))
  (rSeq (rFor (iRg1 (aCons (rC (.int 6)) aNil)) (gN 2)
  (rSeq (rOwn 3 aNil)
  (rSeq (rFor (iLst (rVar 1)) (gN 4)
  (rSeq (rSet 5 (rC (.int 0)))
  (rSeq (rIf (rBin neD (rVar 4) (rTup aNil))
  (rSet 5 (rBin addD (rBin ixD (rVar 4) (rUn negD (rC (.int 1)))) (rC (.int 1))))
  rNext)
  (rFor (iRg2 (aCons (rVar 5) (aCons (rCl lenD (aCons (rVar 0) aNil)) aNil))) (gN 6)
  (rIf (rBin eqD (rCl lenD (aCons (rComp (iTpl (rVar 4)) (gN 7) [7] (rCall 3 f__law_two_near (aCons (rC (.str "abcde")) (aCons (rBin ixD (rVar 0) (rVar 7)) (aCons (rBin ixD (rVar 0) (rVar 6)) aNil)))) (rVar 7)) aNil)) (rC (.int 0)))
  (rApp 3 (rBin addD (rVar 4) (rTup (aCons (rVar 6) aNil))))
  rNext)))))
  (rSeq (rIf (rLook (rBin eqD (rVar 3) (rLst aNil)))
  (rRet (rBin eqD (rVar 2) (rCall 1 f_ring_most (aCons (rC (.int 5)) aNil))))
  rNext)
  (rFrz 3 (rSet 1 (rVar 3)))))))
  (rRet (rC (.bool false))))))
def f__law_trying : RF := rBody 8 b__law_trying
theorem k__law_trying {P : Program} {w : World} {K : PySem.W.Frag} {mg : Str → Option Value} {base : Heap} (M : MG mg) (T : Def K mg "_law_trying" st__law_trying []) (k_ring_most : Kn P w K mg base 5 "ring_most" ["q"] f_ring_most) (k__law_pairs : Kn P w K mg base 1 "_law_pairs" ["letters"] f__law_pairs) (k__law_two_near : Kn P w K mg base 2 "_law_two_near" ["letters", "one", "two"] f__law_two_near) : Kn P w K mg base 6 "_law_trying" [] f__law_trying :=
  kn_of T sc__law_trying fun f cdv A outer s H E hr gd => (by exact (dSs_cons (by exact (dS_set (i := 0) sc__law_trying.nd rfl (by first | exact Or.inl rfl | exact Or.inr rfl) (by exact (dE_kn k__law_pairs (hr.mono (by decide)) gd (L2N.takes_of rfl rfl rfl rfl) (by exact (dA_cons (by exact dE_str) (by exact dA_nil)))))))
  (by exact (dSs_cons (by exact (dS_set (i := 1) sc__law_trying.nd rfl (by first | exact Or.inl rfl | exact Or.inr rfl) (by exact (dE_lst (by exact (dA_cons (by exact (dE_tup (by exact dA_nil))) (by exact dA_nil)))))))
  (by exact (dSs_cons (by exact (dS_for (L2.passes_of rfl) rfl (by exact (dI_rg1 (by rfl) M.zrange (by exact (dA_cons (by exact dE_int) (by exact dA_nil))))) (by exact (dG_name (i := 2) sc__law_trying.nd rfl (by first | exact Or.inl rfl | exact Or.inr rfl)))
  (by exact (dSs_cons (by exact (dS_own (i := 3) sc__law_trying.nd rfl (by first | exact Or.inl rfl | exact Or.inr rfl) (by exact dA_nil)))
  (by exact (dSs_cons (by exact (dS_for (L2.passes_of rfl) rfl (by exact (dI_list (by exact (dE_var (i := 1))))) (by exact (dG_name (i := 4) sc__law_trying.nd rfl (by first | exact Or.inl rfl | exact Or.inr rfl)))
  (by exact (dSs_cons (by exact (dS_set (i := 5) sc__law_trying.nd rfl (by first | exact Or.inl rfl | exact Or.inr rfl) (by exact dE_int)))
  (by exact (dSs_cons (by exact (dS_if (by exact (dT_cmp (op_neD (hr.units)) ok_ne (by exact (dE_var (i := 4))) (by exact (dE_tup (by exact dA_nil))) (by with_unfolding_all rfl)))
  (by exact (dSs_one (by exact (dS_set (i := 5) sc__law_trying.nd rfl (by first | exact Or.inl rfl | exact Or.inr rfl) (by exact (dE_bin op_addA ok_add (by exact (dE_ix ix_seq ok_ix (by exact (dE_var (i := 4))) (by exact (dE_un un_neg ok_neg (by exact dE_int))) (fun _ _ => rfl))) (by exact dE_int)))))))
  (by exact dSs_nil)))
  (by exact (dSs_one (by exact (dS_for (L2.passes_of rfl) rfl (by exact (dI_rg2 (by rfl) M.zrange (by exact (dA_cons (by exact (dE_var (i := 5))) (by exact (dA_cons (by exact (dE_clB call_len ok_len (by rfl) M.zlen bo_len (by exact (dA_cons (by exact (dE_var (i := 0))) (by exact dA_nil))))) (by exact dA_nil))))))) (by exact (dG_name (i := 6) sc__law_trying.nd rfl (by first | exact Or.inl rfl | exact Or.inr rfl)))
  (by exact (dSs_one (by exact (dS_if (by exact (dT_cmp (op_eqD (hr.units)) ok_eq (by exact (dE_clB call_len ok_len (by rfl) M.zlen bo_len (by exact (dA_cons (by exact (dE_comp (own := [("i", 7)]) (ts := [7]) rfl sc__law_trying.nd (by exact (dI_tup (by exact (dE_var (i := 4))))) (by show BlkOk ["names", "lots", "size", "longer", "lot", "begin", "k", "i"] (defScope st__law_trying) _ _; exact ⟨rfl, by decide +kernel, by decide +kernel, by decide +kernel, by decide +kernel⟩) (fun _ _ _ _ _ => by exact (dG_name (i := 7) sc__law_trying.nd rfl (by first | exact Or.inl rfl | exact Or.inr rfl))) (fun _ _ _ _ _ => by exact (dTs_one (by exact (dT_val (by exact (dE_kn k__law_two_near (hr.mono (by decide)) gd takesF (by exact (dA_cons (by exact dE_str) (by exact (dA_cons (by exact (dE_ix ix_seq ok_ix (by exact (dE_var (i := 0))) (by exact (dE_var (i := 7))) (fun _ _ => rfl))) (by exact (dA_cons (by exact (dE_ix ix_seq ok_ix (by exact (dE_var (i := 0))) (by exact (dE_var (i := 6))) (fun _ _ => rfl))) (by exact dA_nil))))))))))))) (fun _ _ _ _ _ => by exact (dE_var (i := 7))))) (by exact dA_nil))))) (by exact dE_int) (by with_unfolding_all rfl)))
  (by exact (dSs_one (by exact (dS_app (i := 3) (by exact (dE_bin op_addA ok_add (by exact (dE_var (i := 4))) (by exact (dE_tup (by exact (dA_cons (by exact (dE_var (i := 6))) (by exact dA_nil)))))))))))
  (by exact dSs_nil)))))))))))))))
  (by exact (dSs_cons (by exact (dS_if (by exact (dT_look (by exact (dT_cmp (op_eqD (hr.units)) ok_eq (by exact (dE_var (i := 3))) (by exact (dE_lst (by exact dA_nil))) (by with_unfolding_all rfl)))))
  (by exact (dSs_one (by exact (dS_ret (by exact (dE_cmp (op_eqD (hr.units)) ok_eq (by exact (dE_var (i := 2))) (by exact (dE_kn k_ring_most (hr.mono (by decide)) gd (L2N.takes_of rfl rfl rfl rfl) (by exact (dA_cons (by exact dE_int) (by exact dA_nil))))) (by with_unfolding_all rfl)))))))
  (by exact dSs_nil)))
  (by exact (dSs_one (by exact (dS_frz 3 (by exact (dS_set (i := 1) sc__law_trying.nd rfl (by first | exact Or.inl rfl | exact Or.inr rfl) (by exact (dE_var (i := 3)))))))))))))))))
  (by exact (dSs_one (by exact (dS_ret (by exact dE_bl)))))))))))
abbrev st__law_names_right : Stmt := topS 35
theorem sc__law_names_right : FnScope ["letters", "q", "names", "keys", "name", "i", "pairs", "j"] ["letters"] (defScope st__law_names_right) := ⟨rfl, rfl, rfl, by decide +kernel, rfl, by decide +kernel, by decide +kernel⟩
def b__law_names_right : RS := (rSeq (rSet 1 (rCl lenD (aCons (rVar 0) aNil)))
  (rSeq (rSet 2 (rCall 1 f_ring_names (aCons (rVar 0) aNil)))
  (rSeq (rIf (rOr (rNot (rUn (isiD isTupD) (rVar 2))) (rBin neD (rCl lenD (aCons (rVar 2) aNil)) (rCall 1 f__law_most (aCons (rVar 1) aNil))))
  (rRet (rC (.bool false)))
  rNext)
  (rSeq (rOwn 3 aNil)
  (rSeq (rFor (iTpl (rVar 2)) (gN 4)
  (rSeq (rIf (rOr (rNot (rUn (isiD isStrD) (rVar 4))) (rOr (rBin neD (rCl lenD (aCons (rVar 4) aNil)) (rC (.int 2))) (rOr (rBin (inD true) (rBin ixD (rVar 4) (rC (.int 0))) (rVar 0)) (rBin (inD true) (rBin ixD (rVar 4) (rC (.int 1))) (rVar 0)))))
  (rRet (rC (.bool false)))
  rNext)
  (rApp 3 (rTup (aCons (rSidx (rVar 0) (rBin ixD (rVar 4) (rC (.int 0)))) (aCons (rSidx (rVar 0) (rBin ixD (rVar 4) (rC (.int 1)))) aNil))))))
  (rSeq (rIf (rLook (rBin neD (rVar 3) (rUn usetD (rVar 3))))
  (rRet (rC (.bool false)))
  rNext)
  (rSeq (rFor (iRg1 (aCons (rCl lenD (aCons (rVar 2) aNil)) aNil)) (gN 5)
  (rFor (iRg1 (aCons (rVar 5) aNil)) (gN 7)
  (rIf (rCall 3 f__law_two_near (aCons (rVar 0) (aCons (rBin ixD (rVar 2) (rVar 5)) (aCons (rBin ixD (rVar 2) (rVar 7)) aNil))))
  (rRet (rC (.bool false)))
  rNext)))
  (rSeq (rSet 6 (rCl tupleD (aCons (rComp (iRg1 (aCons (rVar 1) aNil)) (gN 5) [5] (rC (.bool true)) (rTup (aCons (rBin ixD (rVar 0) (rVar 5)) (aCons (rBin ixD (rVar 0) (rBin modD (rBin addD (rVar 5) (rC (.int 1))) (rVar 1))) aNil)))) aNil)))
  (rRet (rBin eqD (rUn reprD (rCall 1 f_ring_pairs (aCons (rVar 0) aNil))) (rUn reprD (rVar 6))))))))))))
def f__law_names_right : RF := rBody 8 b__law_names_right
theorem k__law_names_right {P : Program} {w : World} {K : PySem.W.Frag} {mg : Str → Option Value} {base : Heap} (M : MG mg) (T : Def K mg "_law_names_right" st__law_names_right ["letters"]) (k_ring_pairs : Kn P w K mg base 6 "ring_pairs" ["letters"] f_ring_pairs) (k_ring_names : Kn P w K mg base 6 "ring_names" ["letters"] f_ring_names) (k__law_most : Kn P w K mg base 1 "_law_most" ["q"] f__law_most) (k__law_two_near : Kn P w K mg base 2 "_law_two_near" ["letters", "one", "two"] f__law_two_near) : Kn P w K mg base 7 "_law_names_right" ["letters"] f__law_names_right :=
  kn_of T sc__law_names_right fun f cdv A outer s H E hr gd => (by exact (dSs_cons (by exact (dS_set (i := 1) sc__law_names_right.nd rfl (by first | exact Or.inl rfl | exact Or.inr rfl) (by exact (dE_clB call_len ok_len (by rfl) M.zlen bo_len (by exact (dA_cons (by exact (dE_var (i := 0))) (by exact dA_nil)))))))
  (by exact (dSs_cons (by exact (dS_set (i := 2) sc__law_names_right.nd rfl (by first | exact Or.inl rfl | exact Or.inr rfl) (by exact (dE_kn k_ring_names (hr.mono (by decide)) gd (L2N.takes_of rfl rfl rfl rfl) (by exact (dA_cons (by exact (dE_var (i := 0))) (by exact dA_nil)))))))
  (by exact (dSs_cons (by exact (dS_if (by exact (dT_pw (by exact (dW_or (by exact (dT_not (by exact (dT_val (by exact (dE_isi kit_tup (by rfl) M.zisinstance (by rfl) M.ztuple bo_tuple (by exact (dE_var (i := 2))))))))) (by exact (dW_or1 (by exact (dT_cmp (op_neD (hr.units)) ok_ne (by exact (dE_clB call_len ok_len (by rfl) M.zlen bo_len (by exact (dA_cons (by exact (dE_var (i := 2))) (by exact dA_nil))))) (by exact (dE_kn k__law_most (hr.mono (by decide)) gd (L2N.takes_of rfl rfl rfl rfl) (by exact (dA_cons (by exact (dE_var (i := 1))) (by exact dA_nil))))) (by with_unfolding_all rfl)))))))))
  (by exact (dSs_one (by exact (dS_ret (by exact dE_bl)))))
  (by exact dSs_nil)))
  (by exact (dSs_cons (by exact (dS_own (i := 3) sc__law_names_right.nd rfl (by first | exact Or.inl rfl | exact Or.inr rfl) (by exact dA_nil)))
  (by exact (dSs_cons (by exact (dS_for (L2.passes_of rfl) rfl (by exact (dI_tup (by exact (dE_var (i := 2))))) (by exact (dG_name (i := 4) sc__law_names_right.nd rfl (by first | exact Or.inl rfl | exact Or.inr rfl)))
  (by exact (dSs_cons (by exact (dS_if (by exact (dT_pw (by exact (dW_or (by exact (dT_not (by exact (dT_val (by exact (dE_isi kit_str (by rfl) M.zisinstance (by rfl) M.zstr bo_str (by exact (dE_var (i := 4))))))))) (by exact (dW_or (by exact (dT_cmp (op_neD (hr.units)) ok_ne (by exact (dE_clB call_len ok_len (by rfl) M.zlen bo_len (by exact (dA_cons (by exact (dE_var (i := 4))) (by exact dA_nil))))) (by exact dE_int) (by with_unfolding_all rfl))) (by exact (dW_or (by exact (dT_cmp op_niA ok_in (by exact (dE_ix ix_seq ok_ix (by exact (dE_var (i := 4))) (by exact dE_int) (fun _ _ => rfl))) (by exact (dE_var (i := 0))) (by with_unfolding_all rfl))) (by exact (dW_or1 (by exact (dT_cmp op_niA ok_in (by exact (dE_ix ix_seq ok_ix (by exact (dE_var (i := 4))) (by exact dE_int) (fun _ _ => rfl))) (by exact (dE_var (i := 0))) (by with_unfolding_all rfl)))))))))))))
  (by exact (dSs_one (by exact (dS_ret (by exact dE_bl)))))
  (by exact dSs_nil)))
  (by exact (dSs_one (by exact (dS_app (i := 3) (by exact (dE_tup (by exact (dA_cons (by exact (dE_sidx (by exact (dE_var (i := 0))) (by exact (dE_ix ix_seq ok_ix (by exact (dE_var (i := 4))) (by exact dE_int) (fun _ _ => rfl))))) (by exact (dA_cons (by exact (dE_sidx (by exact (dE_var (i := 0))) (by exact (dE_ix ix_seq ok_ix (by exact (dE_var (i := 4))) (by exact dE_int) (fun _ _ => rfl))))) (by exact dA_nil)))))))))))))))
  (by exact (dSs_cons (by exact (dS_if (by exact (dT_look (by exact (dT_cmp (op_neD (hr.units)) ok_ne (by exact (dE_var (i := 3))) (by exact (dE_uset rfl hr.units (by rfl) M.zsorted (by rfl) M.zset (by exact (dE_var (i := 3))))) (by with_unfolding_all rfl)))))
  (by exact (dSs_one (by exact (dS_ret (by exact dE_bl)))))
  (by exact dSs_nil)))
  (by exact (dSs_cons (by exact (dS_for (L2.passes_of rfl) rfl (by exact (dI_rg1 (by rfl) M.zrange (by exact (dA_cons (by exact (dE_clB call_len ok_len (by rfl) M.zlen bo_len (by exact (dA_cons (by exact (dE_var (i := 2))) (by exact dA_nil))))) (by exact dA_nil))))) (by exact (dG_name (i := 5) sc__law_names_right.nd rfl (by first | exact Or.inl rfl | exact Or.inr rfl)))
  (by exact (dSs_one (by exact (dS_for (L2.passes_of rfl) rfl (by exact (dI_rg1 (by rfl) M.zrange (by exact (dA_cons (by exact (dE_var (i := 5))) (by exact dA_nil))))) (by exact (dG_name (i := 7) sc__law_names_right.nd rfl (by first | exact Or.inl rfl | exact Or.inr rfl)))
  (by exact (dSs_one (by exact (dS_if (by exact (dT_val (by exact (dE_kn k__law_two_near (hr.mono (by decide)) gd (L2N.takes_of rfl rfl rfl rfl) (by exact (dA_cons (by exact (dE_var (i := 0))) (by exact (dA_cons (by exact (dE_ix ix_seq ok_ix (by exact (dE_var (i := 2))) (by exact (dE_var (i := 5))) (fun _ _ => rfl))) (by exact (dA_cons (by exact (dE_ix ix_seq ok_ix (by exact (dE_var (i := 2))) (by exact (dE_var (i := 7))) (fun _ _ => rfl))) (by exact dA_nil)))))))))))
  (by exact (dSs_one (by exact (dS_ret (by exact dE_bl)))))
  (by exact dSs_nil)))))))))))
  (by exact (dSs_cons (by exact (dS_set (i := 6) sc__law_names_right.nd rfl (by first | exact Or.inl rfl | exact Or.inr rfl) (by exact (dE_clT call_tuple_of ok_tuple (by rfl) M.ztuple bo_tuple (by exact (dA_cons (by exact (dE_comp (own := [("i", 5)]) (ts := [5]) rfl sc__law_names_right.nd (by exact (dI_rg1 (by rfl) M.zrange (by exact (dA_cons (by exact (dE_var (i := 1))) (by exact dA_nil))))) (by show BlkOk ["letters", "q", "names", "keys", "name", "i", "pairs", "j"] (defScope st__law_names_right) _ _; exact ⟨rfl, by decide +kernel, by decide +kernel, by decide +kernel, by decide +kernel⟩) (fun _ _ _ _ _ => by exact (dG_name (i := 5) sc__law_names_right.nd rfl (by first | exact Or.inl rfl | exact Or.inr rfl))) (fun _ _ _ _ _ => by exact dTs_nil) (fun _ _ _ _ _ => by exact (dE_tup (by exact (dA_cons (by exact (dE_ix ix_seq ok_ix (by exact (dE_var (i := 0))) (by exact (dE_var (i := 5))) (fun _ _ => rfl))) (by exact (dA_cons (by exact (dE_ix ix_seq ok_ix (by exact (dE_var (i := 0))) (by exact (dE_bin op_mod ok_mod (by exact (dE_bin op_addA ok_add (by exact (dE_var (i := 5))) (by exact dE_int))) (by exact (dE_var (i := 1))))) (fun _ _ => rfl))) (by exact dA_nil))))))))) (by exact dA_nil)))))))
  (by exact (dSs_one (by exact (dS_ret (by exact (dE_cmp (op_eqD (hr.units)) ok_eq (by exact (dE_repr gd hr.units (by rfl) M.zrepr (by exact (dE_kn k_ring_pairs (hr.mono (by decide)) gd (L2N.takes_of rfl rfl rfl rfl) (by exact (dA_cons (by exact (dE_var (i := 0))) (by exact dA_nil))))))) (by exact (dE_repr gd hr.units (by rfl) M.zrepr (by exact (dE_var (i := 6))))) (by with_unfolding_all rfl)))))))))))))))))))))))
abbrev st_law : Stmt := topS 42
theorem sc_law : FnScope ["script", "purse", "first", "q", "great", "letters"] ["script"] (defScope st_law) := ⟨rfl, rfl, rfl, by decide +kernel, rfl, by decide +kernel, by decide +kernel⟩
def b_law : RS := (rSeq (rOwnCall 1 1 f__law_purse (aCons (rVar 0) aNil))
  (rSeq (rSet 2 (rBin ixD (rTup (aCons (rC (.int 5)) (aCons (rC (.int 3)) (aCons (rC (.int 4)) (aCons (rC (.int 6)) (aCons (rC (.int 7)) (aCons (rC (.int 8)) (aCons (rC (.int 9)) (aCons (rC (.int 10)) (aCons (rC (.int 11)) (aCons (rC (.int 12)) aNil))))))))))) (rCall 2 f__law_pick (aOwn 1 (aCons (rC (.int 10)) aNil)))))
  (rSeq (rFor (iTpl (rTup (aCons (rVar 2) (aCons (rBin addD (rC (.int 3)) (rCall 2 f__law_pick (aOwn 1 (aCons (rC (.int 10)) aNil)))) aNil)))) (gN 3)
  (rSeq (rSet 5 (rCall 2 f__law_ring_letters (aOwn 1 (aCons (rVar 3) aNil))))
  (rIf (rOr (rNot (rCall 1 f__law_names_right (aCons (rVar 5) aNil))) (rNot (rCall 3 f__law_numbers (aCons (rVar 3) (aCons (rCall 1 f__law_most (aCons (rVar 3) aNil)) (aCons (rC (.int 2)) aNil))))))
  (rRet (rC (.bool false)))
  rNext)))
  (rSeq (rFor (iRg2 (aCons (rC (.int 3)) (aCons (rC (.int 14)) aNil))) (gN 3)
  (rIf (rNot (rCall 3 f__law_numbers (aCons (rVar 3) (aCons (rBin subD (rVar 3) (rC (.int 3))) (aCons (rBin subD (rVar 3) (rC (.int 3))) aNil)))))
  (rRet (rC (.bool false)))
  rNext))
  (rSeq (rSet 4 (rBin addD (rC (.int 3)) (rCall 2 f__law_great (aOwn 1 (aCons (rC (.int 14)) aNil)))))
  (rSeq (rIf (rNot (rCall 3 f__law_numbers (aCons (rVar 4) (aCons (rCall 2 f__law_great (aOwn 1 (aCons (rC (.int 12)) aNil))) (aCons (rBin addD (rCall 2 f__law_pick (aOwn 1 (aCons (rC (.int 24)) aNil))) (rBin mulD (rC (.int 12)) (rCall 2 f__law_pick (aOwn 1 (aCons (rC (.int 24)) aNil))))) aNil)))))
  (rRet (rC (.bool false)))
  rNext)
  (rSeq (rIf (rOr (rNot (rCall 3 f__law_numbers (aCons (rBin addD (rBin mulD (rVar 4) (rVar 4)) (rC (.int 1))) (aCons (rVar 4) (aCons (rC (.int 3)) aNil))))) (rNot (rCall 3 f__law_numbers (aCons (rBin addD (rBin powD (rC (.int 10)) (rC (.int 60))) (rVar 4)) (aCons (rBin powD (rC (.int 10)) (rC (.int 50))) (aCons (rC (.int 2)) aNil))))))
  (rRet (rC (.bool false)))
  rNext)
  (rSeq (rIf (rAnd (rBin eqD (rCall 2 f__law_pick (aOwn 1 (aCons (rC (.int 4)) aNil))) (rC (.int 1))) (rNot (rCall 0 f__law_trying aNil)))
  (rRet (rC (.bool false)))
  rNext)
  (rRet (rCall 0 f__law_refused aNil))))))))))
def f_law : RF := rBody 6 b_law
theorem kf_law {P : Program} {w : World} {K : PySem.W.Frag} {mg : Str → Option Value} {base : Heap} {f : Addr} {fd : FuncData} (M : MG mg) (F : Fun K "law" "law" st_law f fd) (k__law_purse : KnO P w K mg base 1 "_law_purse" ["script"] f__law_purse) (k__law_refused : Kn P w K mg base 8 "_law_refused" [] f__law_refused) (k__law_pick : Kn P w K mg base 1 "_law_pick" ["purse", "many"] f__law_pick) (k__law_ring_letters : Kn P w K mg base 2 "_law_ring_letters" ["purse", "q"] f__law_ring_letters) (k__law_great : Kn P w K mg base 2 "_law_great" ["purse", "many"] f__law_great) (k__law_most : Kn P w K mg base 1 "_law_most" ["q"] f__law_most) (k__law_numbers : Kn P w K mg base 6 "_law_numbers" ["q", "many", "m"] f__law_numbers) (k__law_trying : Kn P w K mg base 6 "_law_trying" [] f__law_trying) (k__law_names_right : Kn P w K mg base 7 "_law_names_right" ["letters"] f__law_names_right) : FnD P w K mg base 9 f fd ["script"] f_law :=
  DSs_ok F sc_law fun cdv A outer s H E hr gd => (by exact (dSs_cons (by exact (dS_knO (i := 1) k__law_purse sc_law.nd rfl (by first | exact Or.inl rfl | exact Or.inr rfl) (hr.mono (by decide)) gd (L2N.takes_of rfl rfl rfl rfl) (by exact (dA_cons (by exact (dE_var (i := 0))) (by exact dA_nil)))))
  (by exact (dSs_cons (by exact (dS_set (i := 2) sc_law.nd rfl (by first | exact Or.inl rfl | exact Or.inr rfl) (by exact (dE_ix ix_seq ok_ix (by exact (dE_tup (by exact (dA_cons (by exact dE_int) (by exact (dA_cons (by exact dE_int) (by exact (dA_cons (by exact dE_int) (by exact (dA_cons (by exact dE_int) (by exact (dA_cons (by exact dE_int) (by exact (dA_cons (by exact dE_int) (by exact (dA_cons (by exact dE_int) (by exact (dA_cons (by exact dE_int) (by exact (dA_cons (by exact dE_int) (by exact (dA_cons (by exact dE_int) (by exact dA_nil))))))))))))))))))))))) (by exact (dE_kn k__law_pick (hr.mono (by decide)) gd (L2N.takes_of rfl rfl rfl rfl) (by exact (dA_own (i := 1) (by exact (dA_cons (by exact dE_int) (by exact dA_nil))))))) (fun _ _ => rfl)))))
  (by exact (dSs_cons (by exact (dS_for (L2.passes_of rfl) rfl (by exact (dI_tup (by exact (dE_tup (by exact (dA_cons (by exact (dE_var (i := 2))) (by exact (dA_cons (by exact (dE_bin op_addA ok_add (by exact dE_int) (by exact (dE_kn k__law_pick (hr.mono (by decide)) gd (L2N.takes_of rfl rfl rfl rfl) (by exact (dA_own (i := 1) (by exact (dA_cons (by exact dE_int) (by exact dA_nil))))))))) (by exact dA_nil))))))))) (by exact (dG_name (i := 3) sc_law.nd rfl (by first | exact Or.inl rfl | exact Or.inr rfl)))
  (by exact (dSs_cons (by exact (dS_set (i := 5) sc_law.nd rfl (by first | exact Or.inl rfl | exact Or.inr rfl) (by exact (dE_kn k__law_ring_letters (hr.mono (by decide)) gd (L2N.takes_of rfl rfl rfl rfl) (by exact (dA_own (i := 1) (by exact (dA_cons (by exact (dE_var (i := 3))) (by exact dA_nil)))))))))
  (by exact (dSs_one (by exact (dS_if (by exact (dT_pw (by exact (dW_or (by exact (dT_not (by exact (dT_val (by exact (dE_kn k__law_names_right (hr.mono (by decide)) gd (L2N.takes_of rfl rfl rfl rfl) (by exact (dA_cons (by exact (dE_var (i := 5))) (by exact dA_nil))))))))) (by exact (dW_or1 (by exact (dT_not (by exact (dT_val (by exact (dE_kn k__law_numbers (hr.mono (by decide)) gd (L2N.takes_of rfl rfl rfl rfl) (by exact (dA_cons (by exact (dE_var (i := 3))) (by exact (dA_cons (by exact (dE_kn k__law_most (hr.mono (by decide)) gd (L2N.takes_of rfl rfl rfl rfl) (by exact (dA_cons (by exact (dE_var (i := 3))) (by exact dA_nil))))) (by exact (dA_cons (by exact dE_int) (by exact dA_nil)))))))))))))))))))
  (by exact (dSs_one (by exact (dS_ret (by exact dE_bl)))))
  (by exact dSs_nil)))))))))
  (by exact (dSs_cons (by exact (dS_for (L2.passes_of rfl) rfl (by exact (dI_rg2 (by rfl) M.zrange (by exact (dA_cons (by exact dE_int) (by exact (dA_cons (by exact dE_int) (by exact dA_nil))))))) (by exact (dG_name (i := 3) sc_law.nd rfl (by first | exact Or.inl rfl | exact Or.inr rfl)))
  (by exact (dSs_one (by exact (dS_if (by exact (dT_not (by exact (dT_val (by exact (dE_kn k__law_numbers (hr.mono (by decide)) gd (L2N.takes_of rfl rfl rfl rfl) (by exact (dA_cons (by exact (dE_var (i := 3))) (by exact (dA_cons (by exact (dE_bin op_sub ok_sub (by exact (dE_var (i := 3))) (by exact dE_int))) (by exact (dA_cons (by exact (dE_bin op_sub ok_sub (by exact (dE_var (i := 3))) (by exact dE_int))) (by exact dA_nil)))))))))))))
  (by exact (dSs_one (by exact (dS_ret (by exact dE_bl)))))
  (by exact dSs_nil)))))))
  (by exact (dSs_cons (by exact (dS_set (i := 4) sc_law.nd rfl (by first | exact Or.inl rfl | exact Or.inr rfl) (by exact (dE_bin op_addA ok_add (by exact dE_int) (by exact (dE_kn k__law_great (hr.mono (by decide)) gd (L2N.takes_of rfl rfl rfl rfl) (by exact (dA_own (i := 1) (by exact (dA_cons (by exact dE_int) (by exact dA_nil)))))))))))
  (by exact (dSs_cons (by exact (dS_if (by exact (dT_not (by exact (dT_val (by exact (dE_kn k__law_numbers (hr.mono (by decide)) gd (L2N.takes_of rfl rfl rfl rfl) (by exact (dA_cons (by exact (dE_var (i := 4))) (by exact (dA_cons (by exact (dE_kn k__law_great (hr.mono (by decide)) gd (L2N.takes_of rfl rfl rfl rfl) (by exact (dA_own (i := 1) (by exact (dA_cons (by exact dE_int) (by exact dA_nil))))))) (by exact (dA_cons (by exact (dE_bin op_addA ok_add (by exact (dE_kn k__law_pick (hr.mono (by decide)) gd (L2N.takes_of rfl rfl rfl rfl) (by exact (dA_own (i := 1) (by exact (dA_cons (by exact dE_int) (by exact dA_nil))))))) (by exact (dE_bin op_mulW ok_mul (by exact dE_int) (by exact (dE_kn k__law_pick (hr.mono (by decide)) gd (L2N.takes_of rfl rfl rfl rfl) (by exact (dA_own (i := 1) (by exact (dA_cons (by exact dE_int) (by exact dA_nil))))))))))) (by exact dA_nil)))))))))))))
  (by exact (dSs_one (by exact (dS_ret (by exact dE_bl)))))
  (by exact dSs_nil)))
  (by exact (dSs_cons (by exact (dS_if (by exact (dT_pw (by exact (dW_or (by exact (dT_not (by exact (dT_val (by exact (dE_kn k__law_numbers (hr.mono (by decide)) gd (L2N.takes_of rfl rfl rfl rfl) (by exact (dA_cons (by exact (dE_bin op_addA ok_add (by exact (dE_bin op_mulW ok_mul (by exact (dE_var (i := 4))) (by exact (dE_var (i := 4))))) (by exact dE_int))) (by exact (dA_cons (by exact (dE_var (i := 4))) (by exact (dA_cons (by exact dE_int) (by exact dA_nil))))))))))))) (by exact (dW_or1 (by exact (dT_not (by exact (dT_val (by exact (dE_kn k__law_numbers (hr.mono (by decide)) gd (L2N.takes_of rfl rfl rfl rfl) (by exact (dA_cons (by exact (dE_bin op_addA ok_add (by exact (dE_bin op_pow ok_pow (by exact dE_int) (by exact dE_int))) (by exact (dE_var (i := 4))))) (by exact (dA_cons (by exact (dE_bin op_pow ok_pow (by exact dE_int) (by exact dE_int))) (by exact (dA_cons (by exact dE_int) (by exact dA_nil)))))))))))))))))))
  (by exact (dSs_one (by exact (dS_ret (by exact dE_bl)))))
  (by exact dSs_nil)))
  (by exact (dSs_cons (by exact (dS_if (by exact (dT_pw (by exact (dW_and (by exact (dT_cmp (op_eqD (hr.units)) ok_eq (by exact (dE_kn k__law_pick (hr.mono (by decide)) gd (L2N.takes_of rfl rfl rfl rfl) (by exact (dA_own (i := 1) (by exact (dA_cons (by exact dE_int) (by exact dA_nil))))))) (by exact dE_int) (by with_unfolding_all rfl))) (by exact (dW_and1 (by exact (dT_not (by exact (dT_val (by exact (dE_kn0 k__law_trying (hr.mono (by decide)) gd (L2N.takes_of rfl rfl rfl rfl)))))))))))))
  (by exact (dSs_one (by exact (dS_ret (by exact dE_bl)))))
  (by exact dSs_nil)))
  (by exact (dSs_one (by exact (dS_ret (by exact (dE_kn0 k__law_refused (hr.mono (by decide)) gd (L2N.takes_of rfl rfl rfl rfl)))))))))))))))))))))))
end Sh
set_option maxRecDepth 100000
set_option maxHeartbeats 4000000
/-! Q1: the plain law of the rings: numbers. -/
namespace Sh
open PySem
/-! ### sizes -/
def Bd (a : Nat) (i : Int) : Prop := i.natAbs < 2 ^ a
theorem Bd.mono {a b : Nat} {i : Int} (h : Bd a i) (hab : a ≤ b) : Bd b i := Nat.lt_of_lt_of_le h (Nat.pow_le_pow_right (by decide) hab)
theorem Bd.mul {a b : Nat} {i j : Int} (hi : Bd a i) (hj : Bd b j) : Bd (a + b) (i * j) := by
  unfold Bd at *
  rw [Int.natAbs_mul, Nat.pow_add]
  exact Nat.mul_lt_mul'' hi hj
theorem Bd.half {a : Nat} {i : Int} (h0 : 0 ≤ i) (h : Bd a i) : Bd a (i / 2) := by
  unfold Bd at *
  have e : (i / 2).natAbs ≤ i.natAbs := by omega
  exact Nat.lt_of_le_of_lt e h
theorem Bd.one : Bd 1 1 := by
  unfold Bd
  decide
theorem Bd.add {a : Nat} {i j : Int} (hi : Bd a i) (hj : Bd a j) : Bd (a + 1) (i + j) := by
  unfold Bd at *
  rw [Nat.pow_succ]
  have := Int.natAbs_add_le i j
  omega
theorem Bd.log {a : Nat} {i : Int} (h : Bd a i) : i.natAbs.log2 ≤ a := by
  by_cases z : i.natAbs = 0
  · rw [z]
    exact Nat.zero_le _
  · exact Nat.le_of_lt ((Nat.log2_lt z).mpr h)
theorem mul_ok {i j : Int} {a b : Nat} (hi : Bd a i) (hj : Bd b j) (h : a + b < 1000000) : mulD (.int i) (.int j) = some (.int (i * j)) := by
  unfold mulD
  have := hi.log
  have := hj.log
  exact if_pos (by omega)
theorem div2 (i : Int) : fdivD (.int i) (.int 2) = some (.int (i / 2)) := by
  unfold fdivD
  exact if_pos ⟨by decide, by decide +kernel⟩
theorem mod2 (i : Int) : modD (.int i) (.int 2) = some (.int (i % 2)) := by
  unfold modD
  exact if_pos (by decide)
theorem eq_int (i j : Int) : eqD (.int i) (.int j) = some (.bool (decide (i = j))) := by
  unfold eqD
  rw [if_pos (show (SeqAt.shaped (.int i) && SeqAt.shaped (.int j)) = true from rfl)]
  show some (PyData.bool (i == j)) = _
  by_cases h : i = j
  · subst h
    simp
  · simp [h]
theorem ne_int (i j : Int) : neD (.int i) (.int j) = some (.bool (!decide (i = j))) := by
  unfold neD
  rw [if_pos (show (SeqAt.shaped (.int i) && SeqAt.shaped (.int j)) = true from rfl)]
  show some (PyData.bool (!(i == j))) = _
  by_cases h : i = j
  · subst h
    simp
  · simp [h]
theorem eq_t {x y : D} (h : (SeqAt.shaped x && SeqAt.shaped y && PyData.eqv x y) = true) : eqD x y = some (.bool true) := by
  rw [Bool.and_eq_true] at h
  unfold eqD
  rw [if_pos h.1, h.2]
theorem ne_f {x y : D} (h : (SeqAt.shaped x && SeqAt.shaped y && PyData.eqv x y) = true) : neD x y = some (.bool false) := by
  rw [Bool.and_eq_true] at h
  unfold neD
  rw [if_pos h.1, h.2]
  rfl
/-! ### steps -/
section
variable {a b : RS} {rc : RE} {ri : RI} {g : RG} {body : RS} {ρ ρ' : En} {L L' : Sto} {r : Flw} {ds : List D} {d : D} {N : Nat} {sls : List Sl}
theorem sq (h : a ρ L = .next ρ' L') (h2 : b ρ' L' = r) : rSeq a b ρ L = r := by
  unfold rSeq
  rw [h]
  exact h2
theorem sq_ret (h : a ρ L = .ret d L') : rSeq a b ρ L = .ret d L' := by
  unfold rSeq
  rw [h]
theorem if_t (h : rc ρ L = .ok (.bool true) L') (h2 : a ρ L' = r) : rIf rc a b ρ L = r := by
  unfold rIf
  rw [h]
  exact h2
theorem if_f (h : rc ρ L = .ok (.bool false) L') (h2 : b ρ L' = r) : rIf rc a b ρ L = r := by
  unfold rIf
  rw [h]
  exact h2
theorem fr (h : ri ρ L = .ok ds L') (h2 : loopD g body ds ρ L' = r) : rFor ri g body ρ L = r := by
  unfold rFor
  rw [h]
  exact h2
theorem bd_ret (h : body (sls ++ List.replicate (N - sls.length) .no) L = .ret d L') : rBody N body sls L = .ok d L' := by
  unfold rBody
  rw [h]
theorem bd_next (h : body (sls ++ List.replicate (N - sls.length) .no) L = .next ρ' L') : rBody N body sls L = .ok .none L' := by
  unfold rBody
  rw [h]
theorem lp_next {d : D} {ds : List D} {ρ1 ρ2 : En} {L2 : Sto} (h1 : g d ρ = some ρ1) (h2 : body ρ1 L = .next ρ2 L2) (h3 : loopD g body ds ρ2 L2 = r) : loopD g body (d :: ds) ρ L = r := by
  unfold loopD
  rw [h1]
  simp only []
  rw [h2]
  exact h3
theorem lp_brk {d : D} {ds : List D} {ρ1 ρ2 : En} {L2 : Sto} (h1 : g d ρ = some ρ1) (h2 : body ρ1 L = .brk ρ2 L2) : loopD g body (d :: ds) ρ L = .next ρ2 L2 := by
  unfold loopD
  rw [h1]
  simp only []
  rw [h2]
theorem lp_ret {e : D} {ds : List D} {ρ1 : En} {L2 : Sto} {d : D} (h1 : g d ρ = some ρ1) (h2 : body ρ1 L = .ret e L2) : loopD g body (d :: ds) ρ L = .ret e L2 := by
  unfold loopD
  rw [h1]
  simp only []
  rw [h2]
theorem lp_nil : loopD g body [] ρ L = .next ρ L := rfl
end
section
variable {ρ ρ1 : En} {L L1 L2 L3 : Sto} {ra rb rc re : RE} {x y z d : D} {f : D → D → Option D} {f1 : D → Option D} {fs : List D → Option D} {g : RG} {tt te : RE} {ds ys : List D} {n : Nat} {F : RF} {as : RA} {sls : List Sl}
theorem e_bin (ha : ra ρ L = .ok x L1) (hb : rb ρ L1 = .ok y L2) (hf : f x y = some z) : rBin f ra rb ρ L = .ok z L2 := by
  unfold rBin
  rw [ha]
  show bindE (rb ρ L1) _ = _
  rw [hb]
  show giveE (f x y) L2 = _
  rw [hf]
  rfl
theorem e_un (ha : ra ρ L = .ok x L1) (hf : f1 x = some z) : rUn f1 ra ρ L = .ok z L1 := by
  unfold rUn
  rw [ha]
  show giveE (f1 x) L1 = _
  rw [hf]
  rfl
theorem a_nil : aNil ρ L = .ok [] L := rfl
theorem a_cons (ha : ra ρ L = .ok x L1) (hb : as ρ L1 = .ok sls L2) : aCons ra as ρ L = .ok (.dat x :: sls) L2 := by
  unfold aCons
  rw [ha]
  show bindAA (as ρ L1) _ = _
  rw [hb]
  rfl
theorem e_cl (ha : as ρ L = .ok sls L1) (hd : allDat sls = some ds) (hf : fs ds = some z) : rCl fs as ρ L = .ok z L1 := by
  unfold rCl dats
  rw [ha]
  show (match allDat sls with | some ds => giveE (fs ds) L1 | none => .stuck) = _
  rw [hd]
  show giveE (fs ds) L1 = _
  rw [hf]
  rfl
theorem e_cl1 (ha : ra ρ L = .ok x L1) (hf : fs [x] = some z) : rCl fs (aCons ra aNil) ρ L = .ok z L1 := e_cl (a_cons ha a_nil) rfl hf
theorem e_and_t (ha : ra ρ L = .ok (.bool true) L1) (hb : rb ρ L1 = .ok z L2) : rAnd ra rb ρ L = .ok z L2 := by
  unfold rAnd
  rw [ha]
  exact hb
theorem e_and_f (ha : ra ρ L = .ok (.bool false) L1) : rAnd ra rb ρ L = .ok (.bool false) L1 := by
  unfold rAnd
  rw [ha]
  rfl
theorem e_or_f (ha : ra ρ L = .ok (.bool false) L1) (hb : rb ρ L1 = .ok z L2) : rOr ra rb ρ L = .ok z L2 := by
  unfold rOr
  rw [ha]
  exact hb
theorem e_or_t (ha : ra ρ L = .ok (.bool true) L1) : rOr ra rb ρ L = .ok (.bool true) L1 := by
  unfold rOr
  rw [ha]
  rfl
theorem e_not {b : Bool} (ha : ra ρ L = .ok (.bool b) L1) : rNot ra ρ L = .ok (.bool !b) L1 := by
  unfold rNot
  rw [ha]
  rfl
theorem e_call (ha : as ρ L = .ok sls L1) (hn : sls.length = n) (hf : F sls L1 = .ok z L2) : rCall n F as ρ L = .ok z (L2.take L1.length) := by
  unfold rCall
  rw [ha]
  show (if sls.length = n then _ else _) = _
  rw [if_pos hn, hf]
theorem e_call_same (ha : as ρ L = .ok sls L1) (hn : sls.length = n) (hf : F sls L1 = .ok z L1) : rCall n F as ρ L = .ok z L1 := by
  have h := e_call ha hn hf
  rw [List.take_length] at h
  exact h
theorem rg1_is {j : Int} (ha : ra ρ L = .ok (.int j) L1) (hs : smallI j = true) : iRg1 (aCons ra aNil) ρ L = .ok (rangeD 0 j.toNat) L1 := by
  unfold iRg1
  rw [a_cons ha a_nil]
  exact if_pos hs
theorem rg2_is {i j : Int} (ha : ra ρ L = .ok (.int i) L1) (hb : rb ρ L1 = .ok (.int j) L2) (hi : smallI i = true) (hj : smallI j = true) : iRg2 (aCons ra (aCons rb aNil)) ρ L = .ok (rangeD i (j - i).toNat) L2 := by
  unfold iRg2
  rw [a_cons ha (a_cons hb a_nil)]
  show (if smallI i && smallI j then ResI.ok (rangeD i (j - i).toNat) L2 else ResI.stuck) = _
  rw [hi, hj]
  rfl
theorem s_ret (ha : ra ρ L = .ok z L1) : rRet ra ρ L = .ret z L1 := by
  unfold rRet
  rw [ha]
  rfl
theorem s_set {i : Nat} (ha : ra ρ L = .ok z L1) : rSet i ra ρ L = .next (ρ.set i (.dat z)) L1 := by
  unfold rSet
  rw [ha]
  rfl
theorem s_drop (ha : ra ρ L = .ok z L1) : rDrop ra ρ L = .next ρ L1 := by
  unfold rDrop
  rw [ha]
  rfl
theorem cd_cons (hg : g d ρ = some ρ1) (ht : tt ρ1 L = .ok (.bool true) L1) (he : te ρ1 L1 = .ok y L2) (hr : compD g tt te ρ ds L2 = .ok (.list ys) L3) : compD g tt te ρ (d :: ds) L = .ok (.list (y :: ys)) L3 := by
  unfold compD
  rw [hg]
  show bindN (tt ρ1 L) _ = _
  rw [ht]
  show bindN (te ρ1 L1) _ = _
  rw [he]
  show consL y (compD g tt te ρ ds L2) = _
  rw [hr]
  rfl
theorem cd_skip (hg : g d ρ = some ρ1) (ht : tt ρ1 L = .ok (.bool false) L1) (hr : compD g tt te ρ ds L1 = .ok (.list ys) L3) : compD g tt te ρ (d :: ds) L = .ok (.list ys) L3 := by
  unfold compD
  rw [hg]
  show bindN (tt ρ1 L) _ = _
  rw [ht]
  exact hr
end
/-! ### the program's numbers -/
theorem num_is (q least : Int) (L : Sto) (h : least ≤ q) : f_check_number [.dat (.int q), .dat (.int least)] L = .ok (.int q) L := by
  have h1 : decide (q < least) = false := decide_eq_false (by omega)
  simp [rBody, rSeq, rIf, rOr, rAnd, rNot, rCall, rRet, rNext, rVar, rBin, rUn, aNil, aCons, bindE, bindS, bindA, bindAA, bindEA, giveE, cmpD, isiD, isIntD, isBoolD, f_check_number, b_check_number, f_is_int, b_is_int, h1]
theorem bound_is {q many : Int} {L : Sto} (hq : 3 ≤ q) (hm : 0 ≤ many) (bq : Bd 400 q) (bm : Bd 400 many) : f_ring_bound [.dat (.int q), .dat (.int many)] L = .ok (.int (q * many / 2)) L := by
  simp [rBody, rSeq, rCall, rDrop, rRet, rVar, rC, rBin, aNil, aCons, bindE, bindS, bindA, bindAA, bindEA, giveE, f_ring_bound, b_ring_bound, num_is q 3 L hq, num_is many 0 L hm, mul_ok bq bm (by decide), div2]
theorem most_is {q : Int} {L : Sto} (hq : 3 ≤ q) (bq : Bd 400 q) : f_ring_most [.dat (.int q)] L = .ok (.int (q * (q / 2) / 2)) L := by
  simp [rBody, rSeq, rCall, rDrop, rRet, rVar, rC, rBin, aNil, aCons, bindE, bindS, bindA, bindAA, bindEA, giveE, f_ring_most, b_ring_most, num_is q 3 L hq, mul_ok bq (bq.half (by omega)) (by decide), div2]
def mostI (q : Int) : Int := if q % 2 = 0 then q / 2 * (q / 2) else (q * (q / 2) - q / 2 % 2) / 2
theorem lmost_is {q : Int} {L : Sto} (hq : 0 ≤ q) (bq : Bd 400 q) : f__law_most [.dat (.int q)] L = .ok (.int (mostI q)) L := by
  have h2 := mul_ok (bq.half hq) (bq.half hq) (by decide)
  have h1 := mul_ok bq (bq.half hq) (by decide)
  by_cases h : q % 2 = 0
  · simp [rBody, rSeq, rIf, rRet, rSet, rVar, rC, rBin, rCl, aNil, aCons, bindE, bindS, bindA, bindAA, bindEA, giveE, dats, allDat, intD, subD, f__law_most, b__law_most, mod2, div2, eq_int, h, h2, mostI]
  · simp [rBody, rSeq, rIf, rRet, rSet, rNext, rVar, rC, rBin, rCl, aNil, aCons, bindE, bindS, bindA, bindAA, bindEA, giveE, dats, allDat, intD, subD, f__law_most, b__law_most, mod2, div2, eq_int, h, h1, mostI]
theorem most_eq {q : Int} (hq : 0 ≤ q) : q * (q / 2) / 2 = mostI q := by
  unfold mostI
  obtain ⟨h, hh⟩ : ∃ h, q / 2 = h := ⟨_, rfl⟩
  rw [hh]
  split
  · rename_i e
    have e2 : q = h * 2 := by omega
    rw [e2, Int.mul_assoc, Int.mul_comm 2 h, ← Int.mul_assoc, Int.mul_ediv_cancel _ (by decide)]
  · rename_i e
    have e2 : q = h * 2 + 1 := by omega
    rw [e2, Int.add_mul, Int.one_mul]
    have e3 : h * 2 * h = (h * h) * 2 := by rw [Int.mul_assoc, Int.mul_comm 2 h, ← Int.mul_assoc]
    rw [e3]
    omega
theorem isint_is (a b : Int) (L : Sto) : f__law_is_int [.dat (.int a), .dat (.int b)] L = .ok (.bool (decide (a = b))) L := by
  simp [rBody, rAnd, rNot, rRet, rVar, rBin, rUn, bindE, bindS, giveE, isiD, isIntD, isBoolD, f__law_is_int, b__law_is_int, eq_int]
/-! ### powers -/
theorem range_len (lo : Int) (n : Nat) : (rangeD lo n).length = n := by
  unfold rangeD
  simp
theorem range_cons (lo : Int) (n : Nat) : rangeD lo (n + 1) = .int lo :: rangeD (lo + 1) n := by
  unfold rangeD
  rw [List.range_succ_eq_map, List.map_cons, List.map_map]
  congr 1
  · simp
  · apply List.map_congr_left
    intro i _
    show PyData.int (lo + ((i + 1 : Nat) : Int)) = .int (lo + 1 + (i : Int))
    congr 1
    omega
theorem Bd.pow {a : Nat} {b : Int} (hb : Bd a b) : ∀ k : Nat, Bd (a * k + 1) (b ^ k)
  | 0 => by
    show Bd (a * 0 + 1) (b ^ 0)
    rw [Int.pow_zero]
    exact Bd.one.mono (by omega)
  | k + 1 => by
    rw [Int.pow_succ]
    exact ((Bd.pow hb k).mul hb).mono (by rw [Nat.mul_succ]; omega)
/-- the loop of products: slot i times b, n turns -/
theorem prod_loop {body : RS} {g : RG} {b : Int} {L : Sto} {mk : Int → Sl → En} (hg : ∀ x t d, g d (mk x t) = some (mk x (.dat d))) (hb : ∀ (x : Int) (t : Sl) (k : Nat), k ≤ 300 → x = b ^ k → body (mk x t) L = .next (mk (x * b) t) L) :
    ∀ (n k : Nat) (lo : Int) (t : Sl), k + n ≤ 301 → ∃ t', loopD g body (rangeD lo n) (mk (b ^ k) t) L = .next (mk (b ^ (k + n)) t') L
  | 0, k, lo, t, _ => ⟨t, rfl⟩
  | n + 1, k, lo, t, h => by
    obtain ⟨t', e⟩ := prod_loop hg hb n (k + 1) (lo + 1) (.dat (.int lo)) (by omega)
    refine ⟨t', ?_⟩
    rw [range_cons]
    unfold loopD
    rw [hg]
    simp only []
    rw [hb _ _ k (by omega) rfl]
    simp only []
    rw [← Int.pow_succ, e, show k + (n + 1) = k + 1 + n by omega]
theorem small_is {m : Int} (h0 : 0 ≤ m) (hm : m ≤ 1000000) : smallI m = true := by
  unfold smallI
  rw [decide_eq_true (by omega), decide_eq_true (by omega)]
  rfl
theorem power_is {b m : Int} {L : Sto} (bb : Bd 400 b) (h0 : 0 ≤ m) (hm : m ≤ 300) : f_power_of [.dat (.int b), .dat (.int m)] L = .ok (.int (b ^ m.toNat)) L := by
  have sm := small_is h0 (by omega)
  obtain ⟨t', e⟩ := prod_loop (b := b) (L := L) (g := gN 3) (body := rSet 2 (rBin mulD (rVar 2) (rVar 0))) (mk := fun x t => [.dat (.int b), .dat (.int m), .dat (.int x), t]) (fun x t d => by simp [gN])
    (fun x t k hk hx => by
      subst hx
      have := mul_ok ((Bd.pow bb k).mono (b := 130000) (by have : 400 * k ≤ 400 * 300 := Nat.mul_le_mul_left _ hk; omega)) bb (by decide)
      simp [rSet, rBin, rVar, bindE, bindS, giveE, this]) m.toNat 0 0 .no (by omega)
  simp only [Int.pow_zero, Nat.zero_add] at e
  refine bd_ret (sq (ρ' := [.dat (.int b), .dat (.int m), .dat (.int 1), .no]) (L' := L) (by simp [rBody, rSeq, rIf, rOr, rAnd, rNot, rCall, rDrop, rRet, rRaise, rNext, rSet, rVar, rC, rBin, rUn, rCl, aNil, aCons, aOwn, bindE, bindS, bindSA, bindA, bindAA, bindEA, giveE, dats, allDat, cmpD, addD, subD, negD, intD, lenD, minD, isiD, isIntD, isBoolD, isStrD, isTupD, rChain, rFor, iRg1, iRg2, bindIA, gN, rTup, rLst, rAsg, gT, gsCons, gsNil, rFrz, frz, rIfE]) (sq (fr (ds := rangeD 0 m.toNat) (L' := L) (by simp [rBody, rSeq, rIf, rOr, rAnd, rNot, rCall, rDrop, rRet, rRaise, rNext, rSet, rVar, rC, rBin, rUn, rCl, aNil, aCons, aOwn, bindE, bindS, bindSA, bindA, bindAA, bindEA, giveE, dats, allDat, cmpD, addD, subD, negD, intD, lenD, minD, isiD, isIntD, isBoolD, isStrD, isTupD, rChain, rFor, iRg1, iRg2, bindIA, gN, rTup, rLst, rAsg, gT, gsCons, gsNil, rFrz, frz, rIfE, sm]) e) (by simp [rBody, rSeq, rIf, rOr, rAnd, rNot, rCall, rDrop, rRet, rRaise, rNext, rSet, rVar, rC, rBin, rUn, rCl, aNil, aCons, aOwn, bindE, bindS, bindSA, bindA, bindAA, bindEA, giveE, dats, allDat, cmpD, addD, subD, negD, intD, lenD, minD, isiD, isIntD, isBoolD, isStrD, isTupD, rChain, rFor, iRg1, iRg2, bindIA, gN, rTup, rLst, rAsg, gT, gsCons, gsNil, rFrz, frz, rIfE])))
/-! ### even_most -/
theorem even_is {q m : Int} {L : Sto} (hq : 3 ≤ q) (bq : Bd 400 q) (h0 : 0 ≤ m) (hm : m ≤ 300) (he : q % 2 = 0) : f_even_most [.dat (.int q), .dat (.int m)] L = .ok (.int ((q / 2) ^ m.toNat)) L := by
  simp [rBody, rSeq, rIf, rCall, rDrop, rRet, rNext, rVar, rC, rBin, aNil, aCons, bindE, bindS, bindA, bindAA, bindEA, giveE, f_even_most, b_even_most, num_is q 3 L hq, num_is m 0 L h0, mod2, eq_int, he, div2, power_is (bq.half (by omega)) h0 hm]
theorem odd_is {q m : Int} {L : Sto} (hq : 3 ≤ q) (h0 : 0 ≤ m) (ho : q % 2 = 1) : f_even_most [.dat (.int q), .dat (.int m)] L = .exc "BadCase" (.str "odd") L := by
  simp [rBody, rSeq, rIf, rCall, rDrop, rRaise, rNext, rVar, rC, rBin, aNil, aCons, bindE, bindS, bindA, bindAA, bindEA, giveE, f_even_most, b_even_most, num_is q 3 L hq, num_is m 0 L h0, mod2, eq_int, ho]
/-! ### the numbers told right -/
theorem numbers_is {q many m : Int} {L : Sto} (hq : 3 ≤ q) (bq : Bd 400 q) (hm : 0 ≤ many) (bm : Bd 400 many) (h0 : 0 ≤ m) (h3 : m ≤ 300) : f__law_numbers [.dat (.int q), .dat (.int many), .dat (.int m)] L = .ok (.bool true) L := by
  have sm := small_is h0 (by omega)
  have b1 := bound_is (L := L) hq hm bq bm
  have b2 := most_is (L := L) hq bq
  have b3 := lmost_is (L := L) (show 0 ≤ q by omega) bq
  have bq2 := bq.half (show 0 ≤ q by omega)
  have p0 : 0 ≤ q * many := Int.mul_nonneg (by omega) hm
  have p1 : Bd 800 (q * many) := bq.mul bm
  have m1 := mul_ok (show Bd 2 2 by unfold Bd; decide) (p1.half p0) (by decide)
  have m2 := mul_ok bq bm (by decide)
  have c1 : decide (2 * (q * many / 2) ≤ q * many) = true := decide_eq_true (by omega)
  have c2 : decide (q * many < 2 * (q * many / 2) + 2) = true := decide_eq_true (by omega)
  have e1 := most_eq (show 0 ≤ q by omega)
  obtain ⟨t', e⟩ := prod_loop (b := q / 2) (L := L) (g := gN 5) (body := rSet 4 (rBin mulD (rVar 4) (rBin fdivD (rVar 0) (rC (.int 2))))) (mk := fun x t => [.dat (.int q), .dat (.int many), .dat (.int m), .dat (.int (q * many / 2)), .dat (.int x), t, .no, .no, .no]) (fun x t d => by simp [gN])
    (fun x t k hk hx => by
      subst hx
      have := mul_ok ((Bd.pow bq2 k).mono (b := 130000) (by have : 400 * k ≤ 400 * 300 := Nat.mul_le_mul_left _ hk; omega)) bq2 (by decide)
      simp [rSet, rBin, rVar, rC, bindE, bindS, giveE, div2, this]) m.toNat 0 0 .no (by omega)
  simp only [Int.pow_zero, Nat.zero_add] at e
  refine bd_ret (sq (ρ' := [.dat (.int q), .dat (.int many), .dat (.int m), .dat (.int (q * many / 2)), .no, .no, .no, .no, .no]) (L' := L) (by simp [rBody, rSeq, rIf, rOr, rAnd, rNot, rCall, rDrop, rRet, rRaise, rNext, rSet, rVar, rC, rBin, rUn, rCl, aNil, aCons, aOwn, bindE, bindS, bindSA, bindA, bindAA, bindEA, giveE, dats, allDat, cmpD, addD, subD, negD, intD, lenD, minD, isiD, isIntD, isBoolD, isStrD, isTupD, rChain, rFor, iRg1, iRg2, bindIA, gN, rTup, rLst, rAsg, gT, gsCons, gsNil, rFrz, frz, rIfE, b1]) ?_)
  refine sq (if_f (L' := L) (by simp [rBody, rSeq, rIf, rOr, rAnd, rNot, rCall, rDrop, rRet, rRaise, rNext, rSet, rVar, rC, rBin, rUn, rCl, aNil, aCons, aOwn, bindE, bindS, bindSA, bindA, bindAA, bindEA, giveE, dats, allDat, cmpD, addD, subD, negD, intD, lenD, minD, isiD, isIntD, isBoolD, isStrD, isTupD, rChain, rFor, iRg1, iRg2, bindIA, gN, rTup, rLst, rAsg, gT, gsCons, gsNil, rFrz, frz, rIfE, m1, m2, c1, c2]) rfl) ?_
  refine sq (if_f (L' := L) (by simp [rBody, rSeq, rIf, rOr, rAnd, rNot, rCall, rDrop, rRet, rRaise, rNext, rSet, rVar, rC, rBin, rUn, rCl, aNil, aCons, aOwn, bindE, bindS, bindSA, bindA, bindAA, bindEA, giveE, dats, allDat, cmpD, addD, subD, negD, intD, lenD, minD, isiD, isIntD, isBoolD, isStrD, isTupD, rChain, rFor, iRg1, iRg2, bindIA, gN, rTup, rLst, rAsg, gT, gsCons, gsNil, rFrz, frz, rIfE, b2, b3, isint_is, e1]) rfl) ?_
  refine sq (ρ' := [.dat (.int q), .dat (.int many), .dat (.int m), .dat (.int (q * many / 2)), .dat (.int 1), .no, .no, .no, .no]) (L' := L) (by simp [rBody, rSeq, rIf, rOr, rAnd, rNot, rCall, rDrop, rRet, rRaise, rNext, rSet, rVar, rC, rBin, rUn, rCl, aNil, aCons, aOwn, bindE, bindS, bindSA, bindA, bindAA, bindEA, giveE, dats, allDat, cmpD, addD, subD, negD, intD, lenD, minD, isiD, isIntD, isBoolD, isStrD, isTupD, rChain, rFor, iRg1, iRg2, bindIA, gN, rTup, rLst, rAsg, gT, gsCons, gsNil, rFrz, frz, rIfE]) ?_
  refine sq (fr (ds := rangeD 0 m.toNat) (L' := L) (by simp [rBody, rSeq, rIf, rOr, rAnd, rNot, rCall, rDrop, rRet, rRaise, rNext, rSet, rVar, rC, rBin, rUn, rCl, aNil, aCons, aOwn, bindE, bindS, bindSA, bindA, bindAA, bindEA, giveE, dats, allDat, cmpD, addD, subD, negD, intD, lenD, minD, isiD, isIntD, isBoolD, isStrD, isTupD, rChain, rFor, iRg1, iRg2, bindIA, gN, rTup, rLst, rAsg, gT, gsCons, gsNil, rFrz, frz, rIfE, sm]) e) ?_
  refine sq (ρ' := [.dat (.int q), .dat (.int many), .dat (.int m), .dat (.int (q * many / 2)), .dat (.int ((q / 2) ^ m.toNat)), t', .no, .dat (.str "none"), .dat .none]) (L' := L) (by simp [rBody, rSeq, rIf, rOr, rAnd, rNot, rCall, rDrop, rRet, rRaise, rNext, rSet, rVar, rC, rBin, rUn, rCl, aNil, aCons, aOwn, bindE, bindS, bindSA, bindA, bindAA, bindEA, giveE, dats, allDat, cmpD, addD, subD, negD, intD, lenD, minD, isiD, isIntD, isBoolD, isStrD, isTupD, rChain, rFor, iRg1, iRg2, bindIA, gN, rTup, rLst, rAsg, gT, gsCons, gsNil, rFrz, frz, rIfE]) ?_
  rcases (by omega : q % 2 = 0 ∨ q % 2 = 1) with ev | od
  · have b4 := even_is (L := L) hq bq h0 h3 ev
    refine sq (ρ' := [.dat (.int q), .dat (.int many), .dat (.int m), .dat (.int ((q / 2) ^ m.toNat)), .dat (.int ((q / 2) ^ m.toNat)), t', .no, .dat (.str "none"), .dat .none]) (L' := L) (by simp [rBody, rSeq, rIf, rOr, rAnd, rNot, rCall, rDrop, rRet, rRaise, rNext, rSet, rVar, rC, rBin, rUn, rCl, aNil, aCons, aOwn, bindE, bindS, bindSA, bindA, bindAA, bindEA, giveE, dats, allDat, cmpD, addD, subD, negD, intD, lenD, minD, isiD, isIntD, isBoolD, isStrD, isTupD, rChain, rFor, iRg1, iRg2, bindIA, gN, rTup, rLst, rAsg, gT, gsCons, gsNil, rFrz, frz, rIfE, rTry, b4]) ?_
    refine sq (if_f (L' := L) (by simp [rBody, rSeq, rIf, rOr, rAnd, rNot, rCall, rDrop, rRet, rRaise, rNext, rSet, rVar, rC, rBin, rUn, rCl, aNil, aCons, aOwn, bindE, bindS, bindSA, bindA, bindAA, bindEA, giveE, dats, allDat, cmpD, addD, subD, negD, intD, lenD, minD, isiD, isIntD, isBoolD, isStrD, isTupD, rChain, rFor, iRg1, iRg2, bindIA, gN, rTup, rLst, rAsg, gT, gsCons, gsNil, rFrz, frz, rIfE, mod2, eq_int, ev]) rfl) ?_
    have e0 : eqD (.str "none") (.str "none") = some (.bool true) := eq_t (by decide +kernel)
    simp [rBody, rSeq, rIf, rOr, rAnd, rNot, rCall, rDrop, rRet, rRaise, rNext, rSet, rVar, rC, rBin, rUn, rCl, aNil, aCons, aOwn, bindE, bindS, bindSA, bindA, bindAA, bindEA, giveE, dats, allDat, cmpD, addD, subD, negD, intD, lenD, minD, isiD, isIntD, isBoolD, isStrD, isTupD, rChain, rFor, iRg1, iRg2, bindIA, gN, rTup, rLst, rAsg, gT, gsCons, gsNil, rFrz, frz, rIfE, isint_is, e0]
  · have b4 := odd_is (L := L) hq h0 od
    refine sq (ρ' := [.dat (.int q), .dat (.int many), .dat (.int m), .dat (.int (q * many / 2)), .dat (.int ((q / 2) ^ m.toNat)), t', .no, .dat (.str "case"), .dat (.str "odd")]) (L' := L) (by simp [rBody, rSeq, rIf, rOr, rAnd, rNot, rCall, rDrop, rRet, rRaise, rNext, rSet, rVar, rC, rBin, rUn, rCl, aNil, aCons, aOwn, bindE, bindS, bindSA, bindA, bindAA, bindEA, giveE, dats, allDat, cmpD, addD, subD, negD, intD, lenD, minD, isiD, isIntD, isBoolD, isStrD, isTupD, rChain, rFor, iRg1, iRg2, bindIA, gN, rTup, rLst, rAsg, gT, gsCons, gsNil, rFrz, frz, rIfE, rTry, rHand, knX, b4]) ?_
    have e0 : eqD (.tuple [.str "case", .str "odd"]) (.tuple [.str "case", .str "odd"]) = some (.bool true) := eq_t (by decide +kernel)
    exact sq_ret (if_t (L' := L) (by simp [rBody, rSeq, rIf, rOr, rAnd, rNot, rCall, rDrop, rRet, rRaise, rNext, rSet, rVar, rC, rBin, rUn, rCl, aNil, aCons, aOwn, bindE, bindS, bindSA, bindA, bindAA, bindEA, giveE, dats, allDat, cmpD, addD, subD, negD, intD, lenD, minD, isiD, isIntD, isBoolD, isStrD, isTupD, rChain, rFor, iRg1, iRg2, bindIA, gN, rTup, rLst, rAsg, gT, gsCons, gsNil, rFrz, frz, rIfE, mod2, eq_int, od]) (by simp [rBody, rSeq, rIf, rOr, rAnd, rNot, rCall, rDrop, rRet, rRaise, rNext, rSet, rVar, rC, rBin, rUn, rCl, aNil, aCons, aOwn, bindE, bindS, bindSA, bindA, bindAA, bindEA, giveE, dats, allDat, cmpD, addD, subD, negD, intD, lenD, minD, isiD, isIntD, isBoolD, isStrD, isTupD, rChain, rFor, iRg1, iRg2, bindIA, gN, rTup, rLst, rAsg, gT, gsCons, gsNil, rFrz, frz, rIfE, e0]))
end Sh
set_option maxRecDepth 100000
set_option maxHeartbeats 4000000
/-! Q2: the plain law of the rings: names. -/
namespace Sh
open PySem
/-- the names of a ring of q letters, by places -/
def P : Nat → List (Nat × Nat)
  | 3 => [(1, 0)]
  | 4 => [(0, 0), (0, 2), (2, 0), (2, 2)]
  | 5 => [(0, 0), (1, 2), (2, 4), (3, 1), (4, 3)]
  | 6 => [(0, 0), (0, 2), (0, 4), (2, 0), (2, 2), (2, 4), (4, 0), (4, 2), (4, 4)]
  | 7 => [(0, 0), (1, 2), (1, 4), (2, 6), (3, 1), (3, 3), (4, 5), (5, 0), (5, 2), (6, 4)]
  | 8 => [(0, 0), (0, 2), (0, 4), (0, 6), (2, 0), (2, 2), (2, 4), (2, 6), (4, 0), (4, 2), (4, 4), (4, 6), (6, 0), (6, 2), (6, 4), (6, 6)]
  | 9 => [(0, 0), (0, 2), (1, 4), (1, 6), (2, 1), (2, 8), (3, 3), (3, 5), (4, 0), (4, 7), (5, 2), (5, 4), (6, 6), (6, 8), (7, 1), (7, 3), (8, 5), (8, 7)]
  | 10 => [(0, 0), (0, 2), (0, 4), (0, 6), (0, 8), (2, 0), (2, 2), (2, 4), (2, 6), (2, 8), (4, 0), (4, 2), (4, 4), (4, 6), (4, 8), (6, 0), (6, 2), (6, 4), (6, 6), (6, 8), (8, 0), (8, 2), (8, 4), (8, 6), (8, 8)]
  | 11 => [(0, 0), (0, 2), (1, 4), (1, 6), (1, 8), (2, 1), (2, 10), (3, 3), (3, 5), (3, 7), (4, 0), (4, 9), (5, 2), (5, 4), (5, 6), (6, 8), (6, 10), (7, 1), (7, 3), (7, 5), (8, 7), (8, 9), (9, 0), (9, 2), (9, 4), (10, 6), (10, 8)]
  | 12 => [(0, 0), (0, 2), (0, 4), (0, 6), (0, 8), (0, 10), (2, 0), (2, 2), (2, 4), (2, 6), (2, 8), (2, 10), (4, 0), (4, 2), (4, 4), (4, 6), (4, 8), (4, 10), (6, 0), (6, 2), (6, 4), (6, 6), (6, 8), (6, 10), (8, 0), (8, 2), (8, 4), (8, 6), (8, 8), (8, 10), (10, 0), (10, 2), (10, 4), (10, 6), (10, 8), (10, 10)]
  | _ => []
def nm (l : List Nat) (p : Nat × Nat) : D := .str ⟨#[l.getD p.1 0, l.getD p.2 0]⟩
/-- ring_names behind the check -/
def tailN : RS := (rSeq (rSet 1 (rCl lenD (aCons (rVar 0) aNil)))
  (rSeq (rIf (rBin eqD (rBin modD (rVar 1) (rC (.int 2))) (rC (.int 0)))
  (rRet (rCall 1 f_even_names (aCons (rVar 0) aNil)))
  rNext)
  (rSeq (rOwn 2 aNil)
  (rSeq (rSet 3 (rC (.int 0)))
  (rSeq (rFor (iRg1 (aCons (rVar 1) aNil)) (gN 4)
  (rSeq (rSet 5 (rCall 2 f_seconds_count (aCons (rVar 1) (aCons (rVar 4) aNil))))
  (rSeq (rFor (iLst (rCl sortedD (aCons (rComp (iRg2 (aCons (rVar 3) (aCons (rBin addD (rVar 3) (rVar 5)) aNil))) (gN 7) [7] (rC (.bool true)) (rBin modD (rBin mulD (rC (.int 2)) (rVar 7)) (rVar 1))) aNil))) (gN 6)
  (rApp 2 (rBin addD (rBin ixD (rVar 0) (rVar 4)) (rBin ixD (rVar 0) (rVar 6)))))
  (rAug 3 addI (rVar 5)))))
  (rFrz 2 (rRet (rCl tupleD (aCons (rVar 2) aNil)))))))))
theorem names_3 (c0 c1 c2 : Nat) (x : Option (List D)) : tailN [.dat (.str ⟨#[c0, c1, c2]⟩), .no, .no, .no, .no, .no, .no, .no] [x] = .ret (.tuple ((P 3).map (nm [c0, c1, c2]))) ([x, none]) := by kernel_rfl
theorem names_4 (c0 c1 c2 c3 : Nat) (x : Option (List D)) : tailN [.dat (.str ⟨#[c0, c1, c2, c3]⟩), .no, .no, .no, .no, .no, .no, .no] [x] = .ret (.tuple ((P 4).map (nm [c0, c1, c2, c3]))) ([x]) := by kernel_rfl
theorem names_5 (c0 c1 c2 c3 c4 : Nat) (x : Option (List D)) : tailN [.dat (.str ⟨#[c0, c1, c2, c3, c4]⟩), .no, .no, .no, .no, .no, .no, .no] [x] = .ret (.tuple ((P 5).map (nm [c0, c1, c2, c3, c4]))) ([x, none]) := by kernel_rfl
theorem names_6 (c0 c1 c2 c3 c4 c5 : Nat) (x : Option (List D)) : tailN [.dat (.str ⟨#[c0, c1, c2, c3, c4, c5]⟩), .no, .no, .no, .no, .no, .no, .no] [x] = .ret (.tuple ((P 6).map (nm [c0, c1, c2, c3, c4, c5]))) ([x]) := by kernel_rfl
theorem names_7 (c0 c1 c2 c3 c4 c5 c6 : Nat) (x : Option (List D)) : tailN [.dat (.str ⟨#[c0, c1, c2, c3, c4, c5, c6]⟩), .no, .no, .no, .no, .no, .no, .no] [x] = .ret (.tuple ((P 7).map (nm [c0, c1, c2, c3, c4, c5, c6]))) ([x, none]) := by kernel_rfl
theorem names_8 (c0 c1 c2 c3 c4 c5 c6 c7 : Nat) (x : Option (List D)) : tailN [.dat (.str ⟨#[c0, c1, c2, c3, c4, c5, c6, c7]⟩), .no, .no, .no, .no, .no, .no, .no] [x] = .ret (.tuple ((P 8).map (nm [c0, c1, c2, c3, c4, c5, c6, c7]))) ([x]) := by kernel_rfl
theorem names_9 (c0 c1 c2 c3 c4 c5 c6 c7 c8 : Nat) (x : Option (List D)) : tailN [.dat (.str ⟨#[c0, c1, c2, c3, c4, c5, c6, c7, c8]⟩), .no, .no, .no, .no, .no, .no, .no] [x] = .ret (.tuple ((P 9).map (nm [c0, c1, c2, c3, c4, c5, c6, c7, c8]))) ([x, none]) := by kernel_rfl
theorem names_10 (c0 c1 c2 c3 c4 c5 c6 c7 c8 c9 : Nat) (x : Option (List D)) : tailN [.dat (.str ⟨#[c0, c1, c2, c3, c4, c5, c6, c7, c8, c9]⟩), .no, .no, .no, .no, .no, .no, .no] [x] = .ret (.tuple ((P 10).map (nm [c0, c1, c2, c3, c4, c5, c6, c7, c8, c9]))) ([x]) := by kernel_rfl
theorem names_11 (c0 c1 c2 c3 c4 c5 c6 c7 c8 c9 c10 : Nat) (x : Option (List D)) : tailN [.dat (.str ⟨#[c0, c1, c2, c3, c4, c5, c6, c7, c8, c9, c10]⟩), .no, .no, .no, .no, .no, .no, .no] [x] = .ret (.tuple ((P 11).map (nm [c0, c1, c2, c3, c4, c5, c6, c7, c8, c9, c10]))) ([x, none]) := by kernel_rfl
theorem names_12 (c0 c1 c2 c3 c4 c5 c6 c7 c8 c9 c10 c11 : Nat) (x : Option (List D)) : tailN [.dat (.str ⟨#[c0, c1, c2, c3, c4, c5, c6, c7, c8, c9, c10, c11]⟩), .no, .no, .no, .no, .no, .no, .no] [x] = .ret (.tuple ((P 12).map (nm [c0, c1, c2, c3, c4, c5, c6, c7, c8, c9, c10, c11]))) ([x]) := by kernel_rfl
/-- ring_pairs behind the check -/
def tailP : RS := (rRet (rBin addD (rCl tupleD (aCons (rComp (iRg2 (aCons (rC (.int 1)) (aCons (rCl lenD (aCons (rVar 0) aNil)) aNil))) (gN 1) [1] (rC (.bool true)) (rTup (aCons (rBin ixD (rVar 0) (rBin subD (rVar 1) (rC (.int 1)))) (aCons (rBin ixD (rVar 0) (rVar 1)) aNil)))) aNil)) (rTup (aCons (rTup (aCons (rBin ixD (rVar 0) (rUn negD (rC (.int 1)))) (aCons (rBin ixD (rVar 0) (rC (.int 0))) aNil))) aNil))))
def pairsE : RE := (rCl tupleD (aCons (rComp (iRg1 (aCons (rVar 1) aNil)) (gN 5) [5] (rC (.bool true)) (rTup (aCons (rBin ixD (rVar 0) (rVar 5)) (aCons (rBin ixD (rVar 0) (rBin modD (rBin addD (rVar 5) (rC (.int 1))) (rVar 1))) aNil)))) aNil))
def bodyA : RS := (rSeq (rIf (rOr (rNot (rUn (isiD isStrD) (rVar 4))) (rOr (rBin neD (rCl lenD (aCons (rVar 4) aNil)) (rC (.int 2))) (rOr (rBin (inD true) (rBin ixD (rVar 4) (rC (.int 0))) (rVar 0)) (rBin (inD true) (rBin ixD (rVar 4) (rC (.int 1))) (rVar 0)))))
  (rRet (rC (.bool false)))
  rNext)
  (rApp 3 (rTup (aCons (rSidx (rVar 0) (rBin ixD (rVar 4) (rC (.int 0)))) (aCons (rSidx (rVar 0) (rBin ixD (rVar 4) (rC (.int 1)))) aNil)))))
def bodyC : RS := (rIf (rCall 3 f__law_two_near (aCons (rVar 0) (aCons (rBin ixD (rVar 2) (rVar 5)) (aCons (rBin ixD (rVar 2) (rVar 7)) aNil))))
  (rRet (rC (.bool false)))
  rNext)
def bodyB : RS := (rFor (iRg1 (aCons (rVar 5) aNil)) (gN 7) bodyC)
def nx (q i : Nat) : Nat := (i + 1) % q
def prD (l : List Nat) (q : Nat) : D := .tuple ((List.range q).map fun i => .tuple [.str ⟨#[l.getD i 0]⟩, .str ⟨#[l.getD (nx q i) 0]⟩])
theorem pairs_3 (c0 c1 c2 : Nat) (L : Sto) : tailP [.dat (.str ⟨#[c0, c1, c2]⟩), .no] L = .ret (prD [c0, c1, c2] 3) L := by kernel_rfl
theorem pairsE_3 (c0 c1 c2 : Nat) (s2 s3 s4 s5 s6 s7 : Sl) (L : Sto) : pairsE [.dat (.str ⟨#[c0, c1, c2]⟩), .dat (.int 3), s2, s3, s4, s5, s6, s7] L = .ok (prD [c0, c1, c2] 3) L := by kernel_rfl
theorem pairs_4 (c0 c1 c2 c3 : Nat) (L : Sto) : tailP [.dat (.str ⟨#[c0, c1, c2, c3]⟩), .no] L = .ret (prD [c0, c1, c2, c3] 4) L := by kernel_rfl
theorem pairsE_4 (c0 c1 c2 c3 : Nat) (s2 s3 s4 s5 s6 s7 : Sl) (L : Sto) : pairsE [.dat (.str ⟨#[c0, c1, c2, c3]⟩), .dat (.int 4), s2, s3, s4, s5, s6, s7] L = .ok (prD [c0, c1, c2, c3] 4) L := by kernel_rfl
theorem pairs_5 (c0 c1 c2 c3 c4 : Nat) (L : Sto) : tailP [.dat (.str ⟨#[c0, c1, c2, c3, c4]⟩), .no] L = .ret (prD [c0, c1, c2, c3, c4] 5) L := by kernel_rfl
theorem pairsE_5 (c0 c1 c2 c3 c4 : Nat) (s2 s3 s4 s5 s6 s7 : Sl) (L : Sto) : pairsE [.dat (.str ⟨#[c0, c1, c2, c3, c4]⟩), .dat (.int 5), s2, s3, s4, s5, s6, s7] L = .ok (prD [c0, c1, c2, c3, c4] 5) L := by kernel_rfl
theorem pairs_6 (c0 c1 c2 c3 c4 c5 : Nat) (L : Sto) : tailP [.dat (.str ⟨#[c0, c1, c2, c3, c4, c5]⟩), .no] L = .ret (prD [c0, c1, c2, c3, c4, c5] 6) L := by kernel_rfl
theorem pairsE_6 (c0 c1 c2 c3 c4 c5 : Nat) (s2 s3 s4 s5 s6 s7 : Sl) (L : Sto) : pairsE [.dat (.str ⟨#[c0, c1, c2, c3, c4, c5]⟩), .dat (.int 6), s2, s3, s4, s5, s6, s7] L = .ok (prD [c0, c1, c2, c3, c4, c5] 6) L := by kernel_rfl
theorem pairs_7 (c0 c1 c2 c3 c4 c5 c6 : Nat) (L : Sto) : tailP [.dat (.str ⟨#[c0, c1, c2, c3, c4, c5, c6]⟩), .no] L = .ret (prD [c0, c1, c2, c3, c4, c5, c6] 7) L := by kernel_rfl
theorem pairsE_7 (c0 c1 c2 c3 c4 c5 c6 : Nat) (s2 s3 s4 s5 s6 s7 : Sl) (L : Sto) : pairsE [.dat (.str ⟨#[c0, c1, c2, c3, c4, c5, c6]⟩), .dat (.int 7), s2, s3, s4, s5, s6, s7] L = .ok (prD [c0, c1, c2, c3, c4, c5, c6] 7) L := by kernel_rfl
theorem pairs_8 (c0 c1 c2 c3 c4 c5 c6 c7 : Nat) (L : Sto) : tailP [.dat (.str ⟨#[c0, c1, c2, c3, c4, c5, c6, c7]⟩), .no] L = .ret (prD [c0, c1, c2, c3, c4, c5, c6, c7] 8) L := by kernel_rfl
theorem pairsE_8 (c0 c1 c2 c3 c4 c5 c6 c7 : Nat) (s2 s3 s4 s5 s6 s7 : Sl) (L : Sto) : pairsE [.dat (.str ⟨#[c0, c1, c2, c3, c4, c5, c6, c7]⟩), .dat (.int 8), s2, s3, s4, s5, s6, s7] L = .ok (prD [c0, c1, c2, c3, c4, c5, c6, c7] 8) L := by kernel_rfl
theorem pairs_9 (c0 c1 c2 c3 c4 c5 c6 c7 c8 : Nat) (L : Sto) : tailP [.dat (.str ⟨#[c0, c1, c2, c3, c4, c5, c6, c7, c8]⟩), .no] L = .ret (prD [c0, c1, c2, c3, c4, c5, c6, c7, c8] 9) L := by kernel_rfl
theorem pairsE_9 (c0 c1 c2 c3 c4 c5 c6 c7 c8 : Nat) (s2 s3 s4 s5 s6 s7 : Sl) (L : Sto) : pairsE [.dat (.str ⟨#[c0, c1, c2, c3, c4, c5, c6, c7, c8]⟩), .dat (.int 9), s2, s3, s4, s5, s6, s7] L = .ok (prD [c0, c1, c2, c3, c4, c5, c6, c7, c8] 9) L := by kernel_rfl
theorem pairs_10 (c0 c1 c2 c3 c4 c5 c6 c7 c8 c9 : Nat) (L : Sto) : tailP [.dat (.str ⟨#[c0, c1, c2, c3, c4, c5, c6, c7, c8, c9]⟩), .no] L = .ret (prD [c0, c1, c2, c3, c4, c5, c6, c7, c8, c9] 10) L := by kernel_rfl
theorem pairsE_10 (c0 c1 c2 c3 c4 c5 c6 c7 c8 c9 : Nat) (s2 s3 s4 s5 s6 s7 : Sl) (L : Sto) : pairsE [.dat (.str ⟨#[c0, c1, c2, c3, c4, c5, c6, c7, c8, c9]⟩), .dat (.int 10), s2, s3, s4, s5, s6, s7] L = .ok (prD [c0, c1, c2, c3, c4, c5, c6, c7, c8, c9] 10) L := by kernel_rfl
theorem pairs_11 (c0 c1 c2 c3 c4 c5 c6 c7 c8 c9 c10 : Nat) (L : Sto) : tailP [.dat (.str ⟨#[c0, c1, c2, c3, c4, c5, c6, c7, c8, c9, c10]⟩), .no] L = .ret (prD [c0, c1, c2, c3, c4, c5, c6, c7, c8, c9, c10] 11) L := by kernel_rfl
theorem pairsE_11 (c0 c1 c2 c3 c4 c5 c6 c7 c8 c9 c10 : Nat) (s2 s3 s4 s5 s6 s7 : Sl) (L : Sto) : pairsE [.dat (.str ⟨#[c0, c1, c2, c3, c4, c5, c6, c7, c8, c9, c10]⟩), .dat (.int 11), s2, s3, s4, s5, s6, s7] L = .ok (prD [c0, c1, c2, c3, c4, c5, c6, c7, c8, c9, c10] 11) L := by kernel_rfl
theorem pairs_12 (c0 c1 c2 c3 c4 c5 c6 c7 c8 c9 c10 c11 : Nat) (L : Sto) : tailP [.dat (.str ⟨#[c0, c1, c2, c3, c4, c5, c6, c7, c8, c9, c10, c11]⟩), .no] L = .ret (prD [c0, c1, c2, c3, c4, c5, c6, c7, c8, c9, c10, c11] 12) L := by kernel_rfl
theorem pairsE_12 (c0 c1 c2 c3 c4 c5 c6 c7 c8 c9 c10 c11 : Nat) (s2 s3 s4 s5 s6 s7 : Sl) (L : Sto) : pairsE [.dat (.str ⟨#[c0, c1, c2, c3, c4, c5, c6, c7, c8, c9, c10, c11]⟩), .dat (.int 12), s2, s3, s4, s5, s6, s7] L = .ok (prD [c0, c1, c2, c3, c4, c5, c6, c7, c8, c9, c10, c11] 12) L := by kernel_rfl
theorem len_3 {l : List Nat} (h : l.length = 3) : ∃ c0 c1 c2, l = [c0, c1, c2] := match l, h with
  | [c0, c1, c2], _ => ⟨c0, c1, c2, rfl⟩
theorem len_4 {l : List Nat} (h : l.length = 4) : ∃ c0 c1 c2 c3, l = [c0, c1, c2, c3] := match l, h with
  | [c0, c1, c2, c3], _ => ⟨c0, c1, c2, c3, rfl⟩
theorem len_5 {l : List Nat} (h : l.length = 5) : ∃ c0 c1 c2 c3 c4, l = [c0, c1, c2, c3, c4] := match l, h with
  | [c0, c1, c2, c3, c4], _ => ⟨c0, c1, c2, c3, c4, rfl⟩
theorem len_6 {l : List Nat} (h : l.length = 6) : ∃ c0 c1 c2 c3 c4 c5, l = [c0, c1, c2, c3, c4, c5] := match l, h with
  | [c0, c1, c2, c3, c4, c5], _ => ⟨c0, c1, c2, c3, c4, c5, rfl⟩
theorem len_7 {l : List Nat} (h : l.length = 7) : ∃ c0 c1 c2 c3 c4 c5 c6, l = [c0, c1, c2, c3, c4, c5, c6] := match l, h with
  | [c0, c1, c2, c3, c4, c5, c6], _ => ⟨c0, c1, c2, c3, c4, c5, c6, rfl⟩
theorem len_8 {l : List Nat} (h : l.length = 8) : ∃ c0 c1 c2 c3 c4 c5 c6 c7, l = [c0, c1, c2, c3, c4, c5, c6, c7] := match l, h with
  | [c0, c1, c2, c3, c4, c5, c6, c7], _ => ⟨c0, c1, c2, c3, c4, c5, c6, c7, rfl⟩
theorem len_9 {l : List Nat} (h : l.length = 9) : ∃ c0 c1 c2 c3 c4 c5 c6 c7 c8, l = [c0, c1, c2, c3, c4, c5, c6, c7, c8] := match l, h with
  | [c0, c1, c2, c3, c4, c5, c6, c7, c8], _ => ⟨c0, c1, c2, c3, c4, c5, c6, c7, c8, rfl⟩
theorem len_10 {l : List Nat} (h : l.length = 10) : ∃ c0 c1 c2 c3 c4 c5 c6 c7 c8 c9, l = [c0, c1, c2, c3, c4, c5, c6, c7, c8, c9] := match l, h with
  | [c0, c1, c2, c3, c4, c5, c6, c7, c8, c9], _ => ⟨c0, c1, c2, c3, c4, c5, c6, c7, c8, c9, rfl⟩
theorem len_11 {l : List Nat} (h : l.length = 11) : ∃ c0 c1 c2 c3 c4 c5 c6 c7 c8 c9 c10, l = [c0, c1, c2, c3, c4, c5, c6, c7, c8, c9, c10] := match l, h with
  | [c0, c1, c2, c3, c4, c5, c6, c7, c8, c9, c10], _ => ⟨c0, c1, c2, c3, c4, c5, c6, c7, c8, c9, c10, rfl⟩
theorem len_12 {l : List Nat} (h : l.length = 12) : ∃ c0 c1 c2 c3 c4 c5 c6 c7 c8 c9 c10 c11, l = [c0, c1, c2, c3, c4, c5, c6, c7, c8, c9, c10, c11] := match l, h with
  | [c0, c1, c2, c3, c4, c5, c6, c7, c8, c9, c10, c11], _ => ⟨c0, c1, c2, c3, c4, c5, c6, c7, c8, c9, c10, c11, rfl⟩
def tx (l : List Nat) : Str := ⟨l.toArray⟩
theorem ev_names {l : List Nat} (lo : 3 ≤ l.length) (hi : l.length ≤ 12) (x : Option (List D)) : ∃ L', tailN [.dat (.str (tx l)), .no, .no, .no, .no, .no, .no, .no] [x] = .ret (.tuple ((P l.length).map (nm l))) L' ∧ L'.take 1 = [x] := by
  rcases (by omega : l.length = 3 ∨ l.length = 4 ∨ l.length = 5 ∨ l.length = 6 ∨ l.length = 7 ∨ l.length = 8 ∨ l.length = 9 ∨ l.length = 10 ∨ l.length = 11 ∨ l.length = 12) with h | h | h | h | h | h | h | h | h | h
  · obtain ⟨c0, c1, c2, rfl⟩ := len_3 h
    exact ⟨_, names_3 c0 c1 c2 x, rfl⟩
  · obtain ⟨c0, c1, c2, c3, rfl⟩ := len_4 h
    exact ⟨_, names_4 c0 c1 c2 c3 x, rfl⟩
  · obtain ⟨c0, c1, c2, c3, c4, rfl⟩ := len_5 h
    exact ⟨_, names_5 c0 c1 c2 c3 c4 x, rfl⟩
  · obtain ⟨c0, c1, c2, c3, c4, c5, rfl⟩ := len_6 h
    exact ⟨_, names_6 c0 c1 c2 c3 c4 c5 x, rfl⟩
  · obtain ⟨c0, c1, c2, c3, c4, c5, c6, rfl⟩ := len_7 h
    exact ⟨_, names_7 c0 c1 c2 c3 c4 c5 c6 x, rfl⟩
  · obtain ⟨c0, c1, c2, c3, c4, c5, c6, c7, rfl⟩ := len_8 h
    exact ⟨_, names_8 c0 c1 c2 c3 c4 c5 c6 c7 x, rfl⟩
  · obtain ⟨c0, c1, c2, c3, c4, c5, c6, c7, c8, rfl⟩ := len_9 h
    exact ⟨_, names_9 c0 c1 c2 c3 c4 c5 c6 c7 c8 x, rfl⟩
  · obtain ⟨c0, c1, c2, c3, c4, c5, c6, c7, c8, c9, rfl⟩ := len_10 h
    exact ⟨_, names_10 c0 c1 c2 c3 c4 c5 c6 c7 c8 c9 x, rfl⟩
  · obtain ⟨c0, c1, c2, c3, c4, c5, c6, c7, c8, c9, c10, rfl⟩ := len_11 h
    exact ⟨_, names_11 c0 c1 c2 c3 c4 c5 c6 c7 c8 c9 c10 x, rfl⟩
  · obtain ⟨c0, c1, c2, c3, c4, c5, c6, c7, c8, c9, c10, c11, rfl⟩ := len_12 h
    exact ⟨_, names_12 c0 c1 c2 c3 c4 c5 c6 c7 c8 c9 c10 c11 x, rfl⟩
theorem ev_pairs {l : List Nat} (lo : 3 ≤ l.length) (hi : l.length ≤ 12) (L : Sto) : tailP [.dat (.str (tx l)), .no] L = .ret (prD l l.length) L := by
  rcases (by omega : l.length = 3 ∨ l.length = 4 ∨ l.length = 5 ∨ l.length = 6 ∨ l.length = 7 ∨ l.length = 8 ∨ l.length = 9 ∨ l.length = 10 ∨ l.length = 11 ∨ l.length = 12) with h | h | h | h | h | h | h | h | h | h
  · obtain ⟨c0, c1, c2, rfl⟩ := len_3 h
    exact pairs_3 c0 c1 c2 L
  · obtain ⟨c0, c1, c2, c3, rfl⟩ := len_4 h
    exact pairs_4 c0 c1 c2 c3 L
  · obtain ⟨c0, c1, c2, c3, c4, rfl⟩ := len_5 h
    exact pairs_5 c0 c1 c2 c3 c4 L
  · obtain ⟨c0, c1, c2, c3, c4, c5, rfl⟩ := len_6 h
    exact pairs_6 c0 c1 c2 c3 c4 c5 L
  · obtain ⟨c0, c1, c2, c3, c4, c5, c6, rfl⟩ := len_7 h
    exact pairs_7 c0 c1 c2 c3 c4 c5 c6 L
  · obtain ⟨c0, c1, c2, c3, c4, c5, c6, c7, rfl⟩ := len_8 h
    exact pairs_8 c0 c1 c2 c3 c4 c5 c6 c7 L
  · obtain ⟨c0, c1, c2, c3, c4, c5, c6, c7, c8, rfl⟩ := len_9 h
    exact pairs_9 c0 c1 c2 c3 c4 c5 c6 c7 c8 L
  · obtain ⟨c0, c1, c2, c3, c4, c5, c6, c7, c8, c9, rfl⟩ := len_10 h
    exact pairs_10 c0 c1 c2 c3 c4 c5 c6 c7 c8 c9 L
  · obtain ⟨c0, c1, c2, c3, c4, c5, c6, c7, c8, c9, c10, rfl⟩ := len_11 h
    exact pairs_11 c0 c1 c2 c3 c4 c5 c6 c7 c8 c9 c10 L
  · obtain ⟨c0, c1, c2, c3, c4, c5, c6, c7, c8, c9, c10, c11, rfl⟩ := len_12 h
    exact pairs_12 c0 c1 c2 c3 c4 c5 c6 c7 c8 c9 c10 c11 L
theorem ev_pairsE {l : List Nat} (lo : 3 ≤ l.length) (hi : l.length ≤ 12) (s2 s3 s4 s5 s6 s7 : Sl) (L : Sto) : pairsE [.dat (.str (tx l)), .dat (.int l.length), s2, s3, s4, s5, s6, s7] L = .ok (prD l l.length) L := by
  rcases (by omega : l.length = 3 ∨ l.length = 4 ∨ l.length = 5 ∨ l.length = 6 ∨ l.length = 7 ∨ l.length = 8 ∨ l.length = 9 ∨ l.length = 10 ∨ l.length = 11 ∨ l.length = 12) with h | h | h | h | h | h | h | h | h | h
  · obtain ⟨c0, c1, c2, rfl⟩ := len_3 h
    exact pairsE_3 c0 c1 c2 s2 s3 s4 s5 s6 s7 L
  · obtain ⟨c0, c1, c2, c3, rfl⟩ := len_4 h
    exact pairsE_4 c0 c1 c2 c3 s2 s3 s4 s5 s6 s7 L
  · obtain ⟨c0, c1, c2, c3, c4, rfl⟩ := len_5 h
    exact pairsE_5 c0 c1 c2 c3 c4 s2 s3 s4 s5 s6 s7 L
  · obtain ⟨c0, c1, c2, c3, c4, c5, rfl⟩ := len_6 h
    exact pairsE_6 c0 c1 c2 c3 c4 c5 s2 s3 s4 s5 s6 s7 L
  · obtain ⟨c0, c1, c2, c3, c4, c5, c6, rfl⟩ := len_7 h
    exact pairsE_7 c0 c1 c2 c3 c4 c5 c6 s2 s3 s4 s5 s6 s7 L
  · obtain ⟨c0, c1, c2, c3, c4, c5, c6, c7, rfl⟩ := len_8 h
    exact pairsE_8 c0 c1 c2 c3 c4 c5 c6 c7 s2 s3 s4 s5 s6 s7 L
  · obtain ⟨c0, c1, c2, c3, c4, c5, c6, c7, c8, rfl⟩ := len_9 h
    exact pairsE_9 c0 c1 c2 c3 c4 c5 c6 c7 c8 s2 s3 s4 s5 s6 s7 L
  · obtain ⟨c0, c1, c2, c3, c4, c5, c6, c7, c8, c9, rfl⟩ := len_10 h
    exact pairsE_10 c0 c1 c2 c3 c4 c5 c6 c7 c8 c9 s2 s3 s4 s5 s6 s7 L
  · obtain ⟨c0, c1, c2, c3, c4, c5, c6, c7, c8, c9, c10, rfl⟩ := len_11 h
    exact pairsE_11 c0 c1 c2 c3 c4 c5 c6 c7 c8 c9 c10 s2 s3 s4 s5 s6 s7 L
  · obtain ⟨c0, c1, c2, c3, c4, c5, c6, c7, c8, c9, c10, c11, rfl⟩ := len_12 h
    exact pairsE_12 c0 c1 c2 c3 c4 c5 c6 c7 c8 c9 c10 c11 s2 s3 s4 s5 s6 s7 L

/-! ### letters that may be a ring's -/
def signsC : List Nat := ("abcdefghijklmnopqrstuvwxyz0123456789._-!*@+" : Str).cps.toList
structure Good (l : List Nat) : Prop where
  nd : l.Nodup
  lo : 3 ≤ l.length
  hi : l.length ≤ 12
  sg : ∀ c ∈ l, c ∈ signsC
theorem tx_len (l : List Nat) : (tx l).length = l.length := by
  show (tx l).cps.size = l.length
  simp [tx]
theorem tx_list (l : List Nat) : (tx l).cps.toList = l := by simp [tx]
theorem sg_len (l : List Nat) (h : l.length ≤ 1000) : lenD [.str (tx l)] = some (.int l.length) := by
  show (if (tx l).length ≤ 1000000 then some (PyData.int (tx l).length) else none) = _
  rw [tx_len]
  exact if_pos (by omega)
theorem in_text (c : Nat) (l : List Nat) (neg : Bool) : inD neg (.str ⟨#[c]⟩) (.str (tx l)) = some (.bool (if neg then !decide (c ∈ l) else decide (c ∈ l))) := by
  show some (PyData.bool (if neg then !decide (c ∈ (tx l).cps.toList) else decide (c ∈ (tx l).cps.toList))) = _
  rw [tx_list]
theorem in_signs {c : Nat} (h : c ∈ signsC) : inD false (.str ⟨#[c]⟩) (.str "abcdefghijklmnopqrstuvwxyz0123456789._-!*@+") = some (.bool true) := by
  show some (PyData.bool (decide (c ∈ signsC))) = _
  rw [decide_eq_true h]
theorem once_at {l : List Nat} (hn : l.Nodup) {i c : Nat} (h : l[i]? = some c) : onceAt c l = some i := by
  have hi : i < l.length := (List.getElem?_eq_some_iff.mp h).1
  have he : l[i] = c := (List.getElem?_eq_some_iff.mp h).2
  have f : l.findIdx? (· == c) = some i := by
    rw [List.findIdx?_eq_some_iff_getElem]
    refine ⟨hi, by simp [he], fun j hj => ?_⟩
    have ne : l[j] ≠ l[i] := List.pairwise_iff_getElem.mp hn j i (by omega) hi hj
    simp only [beq_iff_eq, Bool.not_eq_true]
    rw [← he]
    simpa using ne
  unfold onceAt
  rw [f]
  show (if (l.drop (i + 1)).contains c then none else some i) = some i
  rw [if_neg]
  intro z
  have z : c ∈ l.drop (i + 1) := by simpa using z
  obtain ⟨j, hj, e⟩ := List.getElem_of_mem z
  rw [List.length_drop] at hj
  rw [List.getElem_drop] at e
  have ne : l[i] ≠ l[i + 1 + j] := List.pairwise_iff_getElem.mp hn i (i + 1 + j) hi (by omega) (by omega)
  exact ne (he.trans e.symm)
theorem sidx_at {l : List Nat} (hn : l.Nodup) {i c : Nat} (h : l[i]? = some c) : sidxD (.str (tx l)) (.str ⟨#[c]⟩) = some (.int i) := by
  show sidx1 (tx l) [c] = _
  show optInt (onceAt c (tx l).cps.toList) = _
  rw [tx_list, once_at hn h]
  rfl
theorem comp_all {w : Str} {L : Sto} : ∀ {l : List Nat}, (∀ c ∈ l, c ∈ signsC) → compD (gN 1) (rBin (inD false) (rVar 1) (rC (.str "abcdefghijklmnopqrstuvwxyz0123456789._-!*@+"))) (rVar 1) [.dat (.str w), .no] (l.map fun c => .str ⟨#[c]⟩) L = .ok (.list (l.map fun c => .str ⟨#[c]⟩)) L
  | [], _ => rfl
  | c :: l, h => by
    have ih := comp_all (w := w) (L := L) (l := l) fun d hd => h d (List.mem_cons_of_mem _ hd)
    exact cd_cons rfl (e_bin (x := .str ⟨#[c]⟩) rfl rfl (in_signs (h c List.mem_cons_self))) rfl ih
theorem letters_is {l : List Nat} (g : Good l) (L : Sto) : f_is_letters [.dat (.str (tx l))] L = .ok (.bool true) L := by
  have h1 : decide ((1 : Int) ≤ (l.length : Int)) = true := decide_eq_true (by have := g.lo; omega)
  have h2 : decide ((l.length : Int) ≤ 12) = true := decide_eq_true (by have := g.hi; omega)
  have ln := sg_len l (by have := g.hi; omega)
  have sgs : signs (tx l) = l.map fun c => .str ⟨#[c]⟩ := by
    unfold signs
    rw [tx_list]
  have small : (l.map fun c => (PyData.str ⟨#[c]⟩ : D)).length ≤ 1000000 := by
    rw [List.length_map]
    have := g.hi
    omega
  have cp := comp_all (w := tx l) (L := L) g.sg
  have kd : lenSetD (.str (tx l)) = some (.int l.length) := by
    unfold lenSetD
    show (if (tx l).cps.size ≤ 1000 then some (PyData.int (kindsS (tx l))) else none) = _
    rw [if_pos (show (tx l).cps.size ≤ 1000 by rw [show (tx l).cps.size = l.length from tx_len l]; have := g.hi; omega)]
    unfold kindsS
    rw [show (tx l).cps.size = l.length from tx_len l, tx_list, cnt_all g.nd l.length (Nat.le_refl _)]
  have cl : lenD [.list (l.map fun c => .str ⟨#[c]⟩)] = some (.int l.length) := by
    show some (PyData.int ((l.map fun c => (PyData.str ⟨#[c]⟩ : D)).length : Nat)) = _
    rw [List.length_map]
  unfold f_is_letters b_is_letters
  refine bd_ret (sq (if_f (L' := L) ?_ rfl) ?_)
  · simp [rOr, rNot, rUn, rVar, rC, rCl, rChain, aNil, aCons, bindE, bindA, bindAA, bindEA, dats, allDat, giveE, isiD, isStrD, cmpD, ln, h1, h2]
  · have ci : (rComp (iTxt (rVar 0)) (gN 1) [1] (rBin (inD false) (rVar 1) (rC (.str "abcdefghijklmnopqrstuvwxyz0123456789._-!*@+"))) (rVar 1)) [.dat (.str (tx l)), .no] L = .ok (.list (l.map fun c => .str ⟨#[c]⟩)) L := by
      unfold rComp
      show (if (signs (tx l)).length ≤ 1000000 then compD _ _ _ (wipeE [.dat (.str (tx l)), .no] [1]) (signs (tx l)) L else .stuck) = _
      rw [sgs, if_pos small]
      exact cp
    have e2 : rCl lenD (aCons (rVar 0) aNil) [.dat (.str (tx l)), .no] L = .ok (.int l.length) L := e_cl1 (x := .str (tx l)) rfl ln
    have ee : eqD (.int l.length) (.int l.length) = some (.bool true) := by rw [eq_int, decide_eq_true rfl]
    exact s_ret (e_and_t (e_bin (e_cl1 ci cl) e2 ee) (e_bin (e_un (x := .str (tx l)) rfl kd) e2 ee))
theorem ring_is {l : List Nat} (g : Good l) (L : Sto) : f_check_ring [.dat (.str (tx l))] L = .ok .none L := by
  have ln := sg_len l (by have := g.hi; omega)
  have h1 : decide ((l.length : Int) < 3) = false := decide_eq_false (by have := g.lo; omega)
  have ck : f_check_letters [.dat (.str (tx l))] L = .ok (.str (tx l)) L := by
    unfold f_check_letters b_check_letters
    refine bd_ret (sq (if_f (L' := L) ?_ rfl) ?_)
    · simp [rNot, rCall, rVar, aNil, aCons, bindE, bindA, bindAA, bindEA, letters_is g]
    · simp [rRet, rVar, bindS]
  unfold f_check_ring b_check_ring
  refine bd_next (sq (ρ' := [.dat (.str (tx l))]) (L' := L) ?_ (if_f (L' := L) ?_ rfl))
  · simp [rDrop, rCall, rVar, aNil, aCons, bindS, bindE, bindA, bindAA, bindEA, ck]
  · simp [rBin, rCl, rVar, rC, aNil, aCons, bindE, bindA, bindAA, bindEA, dats, allDat, giveE, cmpD, ln, h1]
/-! ### near -/
section
variable {ρ : En} {L L1 L2 : Sto} {ro ra re : RE} {x : Str} {y z d : D} {as : RA} {sls : List Sl} {ds es : List D} {i k : Nat}
theorem e_sidx (ho : ro ρ L = .ok (.str x) L1) (ha : ra ρ L1 = .ok y L2) (h : sidxD (.str x) y = some z) : rSidx ro ra ρ L = .ok z L2 := by
  unfold rSidx
  rw [ho]
  show bindE (ra ρ L1) _ = _
  rw [ha]
  show giveE (sidxD (.str x) y) L2 = _
  rw [h]
  rfl
theorem e_tup (ha : as ρ L = .ok sls L1) (hd : allDat sls = some ds) (hl : ds.length ≤ 1000) : rTup as ρ L = .ok (.tuple ds) L1 := by
  unfold rTup dats
  rw [ha]
  show (match allDat sls with | some ds => if ds.length ≤ 1000 then Res.ok (.tuple ds) L1 else Res.stuck | none => Res.stuck) = _
  rw [hd]
  exact if_pos hl
theorem e_look (h : re (ρ.map (thaw L)) [] = .ok d L1) (hs : scalar d = true) : rLook re ρ L = .ok d L := by
  unfold rLook
  rw [h]
  exact if_pos hs
theorem s_app (h0 : ρ[i]? = some (.own k)) (h1 : L[k]? = some (some es)) (he : re ρ L = .ok d L1) (h2 : L1[k]? = some (some ds)) (hl : ds.length ≤ 1000000) : rApp i re ρ L = .next ρ (L1.set k (some (ds ++ [d]))) := by
  unfold rApp
  rw [h0]
  simp only [h1, he, bindS, h2]
  exact if_pos hl
end
theorem three_le {a b c : D} : [a, b, c].length ≤ 1000 := by show 3 ≤ 1000; decide
theorem two_le {a b : D} : [a, b].length ≤ 1000 := by show 2 ≤ 1000; decide
def nearB (q i j : Nat) : Bool := L2.inV (.int (((i : Int) - (j : Int)) % (q : Int))) [.int 0, .int 1, .int ((q : Int) - 1)]
theorem near_is {l : List Nat} (hn : l.Nodup) (lo : 3 ≤ l.length) (hi : l.length ≤ 12) {i j a b : Nat} (ha : l[i]? = some a) (hb : l[j]? = some b) (L : Sto) : f__law_near [.dat (.str (tx l)), .dat (.str ⟨#[a]⟩), .dat (.str ⟨#[b]⟩)] L = .ok (.bool (nearB l.length i j)) L := by
  have ln := sg_len l (by omega)
  have md : modD (.int ((i : Int) - (j : Int))) (.int (l.length : Int)) = some (.int (((i : Int) - (j : Int)) % (l.length : Int))) := by
    unfold modD
    exact if_pos (by omega)
  unfold f__law_near b__law_near
  refine bd_ret (sq (s_set (e_cl1 (x := .str (tx l)) rfl ln)) (s_ret (e_bin (x := .int (((i : Int) - (j : Int)) % (l.length : Int))) (e_bin (e_cl1 (x := .int ((i : Int) - (j : Int))) (e_bin (e_sidx (x := tx l) rfl rfl (sidx_at hn ha)) (e_sidx (x := tx l) rfl rfl (sidx_at hn hb)) rfl) rfl) rfl md) (e_tup (a_cons rfl (a_cons rfl (a_cons (e_bin (x := .int (l.length : Int)) rfl rfl rfl) a_nil))) rfl three_le) rfl)))
theorem two_near_is {l : List Nat} (hn : l.Nodup) (lo : 3 ≤ l.length) (hi : l.length ≤ 12) {p p' : Nat × Nat} (h1 : p.1 < l.length) (h2 : p.2 < l.length) (h3 : p'.1 < l.length) (h4 : p'.2 < l.length) (L : Sto) :
    f__law_two_near [.dat (.str (tx l)), .dat (nm l p), .dat (nm l p')] L = .ok (.bool (nearB l.length p.1 p'.1 && nearB l.length p.2 p'.2)) L := by
  have at_ : ∀ {i : Nat}, i < l.length → l[i]? = some (l.getD i 0) := fun {i} h => by rw [List.getElem?_eq_getElem h, List.getD_eq_getElem?_getD, List.getElem?_eq_getElem h]; rfl
  have n1 := near_is hn lo hi (at_ h1) (at_ h3) L
  have n2 := near_is hn lo hi (at_ h2) (at_ h4) L
  have c1 : rCall 3 f__law_near (aCons (rVar 0) (aCons (rBin ixD (rVar 1) (rC (.int 0))) (aCons (rBin ixD (rVar 2) (rC (.int 0))) aNil))) [.dat (.str (tx l)), .dat (nm l p), .dat (nm l p')] L = .ok (.bool (nearB l.length p.1 p'.1)) L :=
    e_call_same (a_cons rfl (a_cons (e_bin (x := nm l p) rfl rfl rfl) (a_cons (e_bin (x := nm l p') rfl rfl rfl) a_nil))) rfl n1
  have c2 : rCall 3 f__law_near (aCons (rVar 0) (aCons (rBin ixD (rVar 1) (rC (.int 1))) (aCons (rBin ixD (rVar 2) (rC (.int 1))) aNil))) [.dat (.str (tx l)), .dat (nm l p), .dat (nm l p')] L = .ok (.bool (nearB l.length p.2 p'.2)) L :=
    e_call_same (a_cons rfl (a_cons (e_bin (x := nm l p) rfl rfl rfl) (a_cons (e_bin (x := nm l p') rfl rfl rfl) a_nil))) rfl n2
  unfold f__law_two_near b__law_two_near
  refine bd_ret (s_ret ?_)
  cases hb : nearB l.length p.1 p'.1 with
  | true =>
    rw [hb] at c1
    exact e_and_t c1 c2
  | false =>
    rw [hb] at c1
    exact e_and_f c1
/-! ### the loops of the names -/
def keyD (p : Nat × Nat) : D := .tuple [.int p.1, .int p.2]
theorem get_at {l : List Nat} {i : Nat} (h : i < l.length) : l[i]? = some (l.getD i 0) := by
  rw [List.getElem?_eq_getElem h, List.getD_eq_getElem?_getD, List.getElem?_eq_getElem h]
  rfl
theorem get_mem {l : List Nat} {i : Nat} (h : i < l.length) : l.getD i 0 ∈ l := List.mem_of_getElem? (get_at h)
theorem turnA {l : List Nat} (hn : l.Nodup) {p : Nat × Nat} (h1 : p.1 < l.length) (h2 : p.2 < l.length) {q ns s5 s6 s7 : Sl} {x : Option (List D)} {ks : List D} (hk : ks.length ≤ 1000) :
    bodyA [.dat (.str (tx l)), q, ns, .own 1, .dat (nm l p), s5, s6, s7] [x, some ks] = .next [.dat (.str (tx l)), q, ns, .own 1, .dat (nm l p), s5, s6, s7] [x, some (ks ++ [keyD p])] := by
  have i0 : inD true (.str ⟨#[l.getD p.1 0]⟩) (.str (tx l)) = some (.bool false) := by rw [in_text, decide_eq_true (get_mem h1)]; rfl
  have i1 : inD true (.str ⟨#[l.getD p.2 0]⟩) (.str (tx l)) = some (.bool false) := by rw [in_text, decide_eq_true (get_mem h2)]; rfl
  have l2 : lenD [nm l p] = some (.int 2) := rfl
  unfold bodyA
  refine sq (if_f (L' := [x, some ks]) (e_or_f (e_not (b := true) (e_un (x := nm l p) rfl rfl)) (e_or_f (e_bin (e_cl1 (x := nm l p) rfl l2) rfl (by rw [ne_int, decide_eq_true rfl]; rfl)) (e_or_f (e_bin (e_bin (x := nm l p) rfl rfl rfl) (y := .str (tx l)) rfl i0) (e_bin (e_bin (x := nm l p) rfl rfl rfl) (y := .str (tx l)) rfl i1)))) rfl) ?_
  exact s_app (k := 1) (es := ks) (ds := ks) (L1 := [x, some ks]) (d := keyD p) rfl rfl (e_tup (a_cons (e_sidx (x := tx l) rfl (e_bin (x := nm l p) rfl rfl rfl) (sidx_at hn (get_at h1))) (a_cons (e_sidx (x := tx l) rfl (e_bin (x := nm l p) rfl rfl rfl) (sidx_at hn (get_at h2))) a_nil)) rfl two_le) rfl (by omega)
theorem loopA {l : List Nat} (hn : l.Nodup) {q ns s5 s6 s7 : Sl} {x : Option (List D)} : ∀ (ps : List (Nat × Nat)) (ks : List D) (t : Sl), (∀ p ∈ ps, p.1 < l.length ∧ p.2 < l.length) → ks.length + ps.length ≤ 1000 →
    ∃ t', loopD (gN 4) bodyA (ps.map (nm l)) [.dat (.str (tx l)), q, ns, .own 1, t, s5, s6, s7] [x, some ks] = .next [.dat (.str (tx l)), q, ns, .own 1, t', s5, s6, s7] [x, some (ks ++ ps.map keyD)]
  | [], ks, t, _, _ => ⟨t, by rw [List.map_nil, List.map_nil, List.append_nil]; rfl⟩
  | p :: ps, ks, t, h, hl => by
    rw [List.length_cons] at hl
    obtain ⟨h1, h2⟩ := h p List.mem_cons_self
    obtain ⟨t', e⟩ := loopA hn ps (ks ++ [keyD p]) (.dat (nm l p)) (fun p hp => h p (List.mem_cons_of_mem _ hp)) (by rw [List.length_append, List.length_singleton]; omega)
    refine ⟨t', ?_⟩
    rw [List.map_cons, List.map_cons]
    refine lp_next rfl (turnA hn h1 h2 (by omega)) ?_
    rw [e, List.append_assoc]
    rfl
theorem loopC {l : List Nat} (g : Good l) {ps : List (Nat × Nat)} (hp : ∀ p ∈ ps, p.1 < l.length ∧ p.2 < l.length) {q s3 s4 s6 : Sl} {L : Sto} {i : Nat} (hi : i < ps.length)
    (far : ∀ j, j < i → (nearB l.length (ps.getD i (0, 0)).1 (ps.getD j (0, 0)).1 && nearB l.length (ps.getD i (0, 0)).2 (ps.getD j (0, 0)).2) = false) : ∀ (n j : Nat) (t : Sl), j + n = i →
    ∃ t', loopD (gN 7) bodyC (rangeD j n) [.dat (.str (tx l)), q, .dat (.tuple (ps.map (nm l))), s3, s4, .dat (.int i), s6, t] L = .next [.dat (.str (tx l)), q, .dat (.tuple (ps.map (nm l))), s3, s4, .dat (.int i), s6, t'] L
  | 0, j, t, _ => ⟨t, rfl⟩
  | n + 1, j, t, h => by
    obtain ⟨t', e⟩ := loopC g hp (q := q) (s3 := s3) (s4 := s4) (s6 := s6) (L := L) hi far n (j + 1) (.dat (.int j)) (by omega)
    refine ⟨t', ?_⟩
    rw [range_cons]
    have hj : j < ps.length := by omega
    have gi : ps[i]? = some (ps.getD i (0, 0)) := by rw [List.getElem?_eq_getElem hi, List.getD_eq_getElem?_getD, List.getElem?_eq_getElem hi]; rfl
    have gj : ps[j]? = some (ps.getD j (0, 0)) := by rw [List.getElem?_eq_getElem hj, List.getD_eq_getElem?_getD, List.getElem?_eq_getElem hj]; rfl
    obtain ⟨a1, a2⟩ := hp _ (List.mem_of_getElem? gi)
    obtain ⟨b1, b2⟩ := hp _ (List.mem_of_getElem? gj)
    have ixn : ∀ {k : Nat} {r : Nat × Nat}, k < ps.length → ps[k]? = some r → ixD (.tuple (ps.map (nm l))) (.int (k : Int)) = some (nm l r) := by
      intro k r hk e
      show L2.atI (ps.map (nm l)) (k : Int) = _
      have e2 : (ps.map (nm l))[k]? = some (nm l r) := by rw [List.getElem?_map, e]; rfl
      exact L2.atI_nat e2
    have tn := two_near_is g.nd g.lo g.hi a1 a2 b1 b2 L
    rw [far j (by omega)] at tn
    have jj : ((j : Int) + 1) = ((j + 1 : Nat) : Int) := by omega
    rw [jj]
    refine lp_next rfl (if_f (L' := L) (e_call_same (a_cons rfl (a_cons (e_bin (x := .tuple (ps.map (nm l))) rfl rfl (ixn hi gi)) (a_cons (e_bin (x := .tuple (ps.map (nm l))) rfl rfl (ixn hj gj)) a_nil))) rfl tn) rfl) e
theorem loopB {l : List Nat} (g : Good l) {ps : List (Nat × Nat)} (hp : ∀ p ∈ ps, p.1 < l.length ∧ p.2 < l.length) {q s3 s4 s6 : Sl} {L : Sto} (few : ps.length ≤ 1000)
    (far : ∀ i, i < ps.length → ∀ j, j < i → (nearB l.length (ps.getD i (0, 0)).1 (ps.getD j (0, 0)).1 && nearB l.length (ps.getD i (0, 0)).2 (ps.getD j (0, 0)).2) = false) : ∀ (n i : Nat) (s t : Sl), i + n = ps.length →
    ∃ s' t', loopD (gN 5) bodyB (rangeD i n) [.dat (.str (tx l)), q, .dat (.tuple (ps.map (nm l))), s3, s4, s, s6, t] L = .next [.dat (.str (tx l)), q, .dat (.tuple (ps.map (nm l))), s3, s4, s', s6, t'] L
  | 0, i, s, t, _ => ⟨s, t, rfl⟩
  | n + 1, i, s, t, h => by
    obtain ⟨t1, e1⟩ := loopC g hp (q := q) (s3 := s3) (s4 := s4) (s6 := s6) (L := L) (i := i) (by omega) (far i (by omega)) i 0 t (by omega)
    obtain ⟨s', t', e⟩ := loopB g hp (q := q) (s3 := s3) (s4 := s4) (s6 := s6) (L := L) few far n (i + 1) (.dat (.int i)) t1 (by omega)
    refine ⟨s', t', ?_⟩
    rw [range_cons]
    have ii : ((i : Int) + 1) = ((i + 1 : Nat) : Int) := by omega
    rw [ii]
    have rg : (iRg1 (aCons (rVar 5) aNil)) [.dat (.str (tx l)), q, .dat (.tuple (ps.map (nm l))), s3, s4, .dat (.int i), s6, t] L = .ok (rangeD 0 i) L := by
      have z := rg1_is (ra := rVar 5) (ρ := [.dat (.str (tx l)), q, .dat (.tuple (ps.map (nm l))), s3, s4, .dat (.int i), s6, t]) (L := L) (L1 := L) (j := (i : Int)) rfl (small_is (by omega) (by omega))
      rw [Int.toNat_natCast] at z
      exact z
    exact lp_next rfl (fr rg e1) e
/-! ### what the places keep, q by q -/
def keysD (q : Nat) : List D := (P q).map keyD
def inOrder (ds : List D) : Bool := match pairsOf ds with
  | some ps => ps.all smallP && upw ps && decide (ps.length < 64)
  | none => false
theorem uset_of {ds : List D} (h : inOrder ds = true) : usetD (.list ds) = some (.list ds) := by
  unfold inOrder at h
  show usetO ds (pairsOf ds) = _
  cases hp : pairsOf ds with
  | none => rw [hp] at h; cases h
  | some ps =>
    rw [hp] at h
    exact if_pos h
def farB (q : Nat) : Bool := (List.range (P q).length).all fun i => (List.range i).all fun j => !(nearB q ((P q).getD i (0, 0)).1 ((P q).getD j (0, 0)).1 && nearB q ((P q).getD i (0, 0)).2 ((P q).getD j (0, 0)).2)
def pChk (q : Nat) : Bool := (P q).all (fun p => decide (p.1 < q) && decide (p.2 < q)) && farB q && inOrder (keysD q) && (SeqAt.shaped (.list (keysD q)) && SeqAt.shaped (.list (keysD q)) && PyData.eqv (.list (keysD q)) (.list (keysD q))) && decide (((P q).length : Int) = mostI q) && decide ((P q).length ≤ 1000)
theorem pchk_all : ((List.range 10).all fun k => pChk (k + 3)) = true := by decide +kernel
theorem pchk {q : Nat} (lo : 3 ≤ q) (hi : q ≤ 12) : pChk q = true := by
  have h := List.all_eq_true.mp pchk_all (q - 3) (List.mem_range.mpr (by omega))
  rw [show q - 3 + 3 = q by omega] at h
  exact h
theorem ring_names_is {l : List Nat} (g : Good l) (x : Option (List D)) : ∃ L', f_ring_names [.dat (.str (tx l))] [x] = .ok (.tuple ((P l.length).map (nm l))) L' ∧ L'.take 1 = [x] := by
  obtain ⟨L', e, t⟩ := ev_names g.lo g.hi x
  exact ⟨L', bd_ret (sq (s_drop (e_call_same (a_cons (x := .str (tx l)) rfl a_nil) rfl (ring_is g [x]))) e), t⟩
theorem ring_pairs_is {l : List Nat} (g : Good l) (L : Sto) : f_ring_pairs [.dat (.str (tx l))] L = .ok (prD l l.length) L :=
  bd_ret (sq (s_drop (e_call_same (a_cons (x := .str (tx l)) rfl a_nil) rfl (ring_is g L))) (ev_pairs g.lo g.hi L))
theorem small_bd {q : Nat} (hi : q ≤ 12) : Bd 400 (q : Int) := by
  unfold Bd
  have : (q : Int).natAbs = q := by omega
  rw [this]
  exact Nat.lt_of_le_of_lt hi (Nat.lt_of_lt_of_le (show 12 < 2 ^ 4 by decide) (Nat.pow_le_pow_right (by decide) (by decide)))
theorem names_right_is {l : List Nat} (g : Good l) {r : Str} (rp : reprD (prD l l.length) = some (.str r)) (sh : SeqAt.shaped (.str r) = true) (x : Option (List D)) : ∃ L', f__law_names_right [.dat (.str (tx l))] [x] = .ok (.bool true) L' ∧ L'.take 1 = [x] := by
  have ck := pchk g.lo g.hi
  unfold pChk at ck
  rw [Bool.and_eq_true, Bool.and_eq_true, Bool.and_eq_true, Bool.and_eq_true, Bool.and_eq_true] at ck
  obtain ⟨⟨⟨⟨⟨c1, c2⟩, c3⟩, c4⟩, c5⟩, c6⟩ := ck
  have hp : ∀ p ∈ P l.length, p.1 < l.length ∧ p.2 < l.length := fun p hp => by
    have z := List.all_eq_true.mp c1 p hp
    rw [Bool.and_eq_true] at z
    exact ⟨of_decide_eq_true z.1, of_decide_eq_true z.2⟩
  have far : ∀ i, i < (P l.length).length → ∀ j, j < i → (nearB l.length ((P l.length).getD i (0, 0)).1 ((P l.length).getD j (0, 0)).1 && nearB l.length ((P l.length).getD i (0, 0)).2 ((P l.length).getD j (0, 0)).2) = false := fun i hi j hj => by
    have z := List.all_eq_true.mp (List.all_eq_true.mp c2 i (List.mem_range.mpr hi)) j (List.mem_range.mpr hj)
    cases q : (nearB l.length ((P l.length).getD i (0, 0)).1 ((P l.length).getD j (0, 0)).1 && nearB l.length ((P l.length).getD i (0, 0)).2 ((P l.length).getD j (0, 0)).2) with
    | false => rfl
    | true =>
      rw [q] at z
      cases z
  have len : ((P l.length).length : Int) = mostI l.length := of_decide_eq_true c5
  have few : (P l.length).length ≤ 1000 := of_decide_eq_true c6
  obtain ⟨L1, nmE, t1⟩ := ring_names_is g x
  have ln := sg_len l (by have := g.hi; omega)
  have e0 : rCall 1 f_ring_names (aCons (rVar 0) aNil) [.dat (.str (tx l)), .dat (.int l.length), .no, .no, .no, .no, .no, .no] [x] = .ok (.tuple ((P l.length).map (nm l))) [x] := by
    have z := e_call (n := 1) (F := f_ring_names) (as := aCons (rVar 0) aNil) (ρ := [.dat (.str (tx l)), .dat (.int l.length), .no, .no, .no, .no, .no, .no]) (L := [x]) (L1 := [x]) (a_cons (x := .str (tx l)) rfl a_nil) rfl nmE
    rw [show ([x] : Sto).length = 1 from rfl, t1] at z
    exact z
  have lenN : lenD [.tuple ((P l.length).map (nm l))] = some (.int (mostI l.length)) := by
    show some (PyData.int (((P l.length).map (nm l)).length : Nat)) = _
    rw [List.length_map, len]
  obtain ⟨tA, eA⟩ := loopA g.nd (q := .dat (.int l.length)) (ns := .dat (.tuple ((P l.length).map (nm l)))) (s5 := .no) (s6 := .no) (s7 := .no) (x := x) (P l.length) [] .no hp (by rw [List.length_nil]; omega)
  obtain ⟨sB, tB, eB⟩ := loopB g hp (q := .dat (.int l.length)) (s3 := .own 1) (s4 := tA) (s6 := .no) (L := [x, some (keysD l.length)]) few far (P l.length).length 0 .no .no (by omega)
  have tst : rLook (rBin neD (rVar 3) (rUn usetD (rVar 3))) [.dat (.str (tx l)), .dat (.int l.length), .dat (.tuple ((P l.length).map (nm l))), .own 1, tA, .no, .no, .no] [x, some (keysD l.length)] = .ok (.bool false) [x, some (keysD l.length)] :=
    e_look (e_bin (x := .list (keysD l.length)) rfl (e_un (x := .list (keysD l.length)) rfl (uset_of c3)) (ne_f c4)) rfl
  have rl : (P l.length).length = ((mostI l.length).toNat) := by omega
  have rB : (iRg1 (aCons (rCl lenD (aCons (rVar 2) aNil)) aNil)) [.dat (.str (tx l)), .dat (.int l.length), .dat (.tuple ((P l.length).map (nm l))), .own 1, tA, .no, .no, .no] [x, some (keysD l.length)] = .ok (rangeD 0 (P l.length).length) [x, some (keysD l.length)] := by
    have z := rg1_is (ra := rCl lenD (aCons (rVar 2) aNil)) (ρ := [.dat (.str (tx l)), .dat (.int l.length), .dat (.tuple ((P l.length).map (nm l))), .own 1, tA, .no, .no, .no]) (L := [x, some (keysD l.length)]) (L1 := [x, some (keysD l.length)]) (e_cl1 (x := .tuple ((P l.length).map (nm l))) rfl lenN) (small_is (by omega) (by omega))
    rw [← rl] at z
    exact z
  refine ⟨[x, some (keysD l.length)], ?_, rfl⟩
  unfold f__law_names_right b__law_names_right
  refine bd_ret (sq (s_set (e_cl1 (x := .str (tx l)) rfl ln)) (sq (s_set e0) (sq (if_f (L' := [x]) (e_or_f (e_not (b := true) (e_un (x := .tuple ((P l.length).map (nm l))) rfl rfl)) (e_bin (e_cl1 (x := .tuple ((P l.length).map (nm l))) rfl lenN) (e_call_same (a_cons (x := .int l.length) rfl a_nil) rfl (lmost_is (by omega) (small_bd g.hi))) (by rw [ne_int, decide_eq_true rfl]; rfl))) rfl) ?_)))
  refine sq (ρ' := [.dat (.str (tx l)), .dat (.int l.length), .dat (.tuple ((P l.length).map (nm l))), .own 1, .no, .no, .no, .no]) (L' := [x, some []]) rfl ?_
  refine sq (fr (ds := (P l.length).map (nm l)) (L' := [x, some []]) rfl eA) ?_
  refine sq (if_f tst rfl) ?_
  refine sq (fr rB eB) ?_
  refine sq (s_set (ev_pairsE g.lo g.hi _ _ _ _ _ _ _)) ?_
  exact s_ret (e_bin (e_un (e_call_same (a_cons (x := .str (tx l)) rfl a_nil) rfl (ring_pairs_is g _)) rp) (e_un (x := prD l l.length) rfl rp) (eq_t (by rw [sh]; simp [PyData.eqv])))
end Sh
set_option maxRecDepth 100000
set_option maxHeartbeats 4000000
/-! Q3: the plain law of the rings: what is drawn. -/
namespace Sh
open PySem
/-! ### the letters -/
def bases : List D := [.str "abcdefghijkl", .str "lkjihgfedcba", .str "b0a1z.9-y!8x", .str "qwertyuiop@+"]
def turned (z : D) (s q : Int) : Option D := match cutD z (some s) none, cutD z none (some s) with
  | some x, some y => (match addD x y with
    | some w => cutD w none (some q)
    | none => none)
  | _, _ => none
def okLet (q : Nat) : Option D → Bool
  | some (.str z) => decide (z.cps.toList.length = q) && decide (z.cps.toList.Nodup) && z.cps.toList.all (fun c => signsC.contains c)
  | _ => false
def letChk : Bool := bases.all fun z => (List.range 12).all fun s => (List.range 10).all fun q => okLet (q + 3) (turned z s ((q + 3 : Nat) : Int))
theorem let_chk : letChk = true := by decide +kernel
/-! ### what repr prints of pairs -/
def Fine (n : Nat) (s : Str) : Prop := s.length ≤ n ∧ ∀ c ∈ s.cps.toList, c < 0x110000
theorem Fine.app {n k : Nat} {a b : Str} (ha : Fine n a) (hb : Fine k b) : Fine (n + k) (a ++ b) := by
  refine ⟨?_, fun c hc => ?_⟩
  · rw [strLen_append]
    have := ha.1
    have := hb.1
    omega
  · have e : (a ++ b).cps.toList = a.cps.toList ++ b.cps.toList := by
      show (a.cps ++ b.cps).toList = _
      simp
    rw [e] at hc
    rcases List.mem_append.mp hc with h | h
    · exact ha.2 c h
    · exact hb.2 c h
theorem Fine.mono {n k : Nat} {s : Str} (h : Fine n s) (hk : n ≤ k) : Fine k s := ⟨Nat.le_trans h.1 hk, h.2⟩
theorem fine_of {n : Nat} {s : Str} (h : (decide (s.length ≤ n) && s.cps.toList.all fun c => decide (c < 0x110000)) = true) : Fine n s := by
  rw [Bool.and_eq_true] at h
  exact ⟨of_decide_eq_true h.1, fun c hc => of_decide_eq_true (List.all_eq_true.mp h.2 c hc)⟩
theorem fine_join {n : Nat} : ∀ {ts : List Str}, (∀ t ∈ ts, Fine n t) → Fine (ts.length * (n + 2)) (Str.join ", " ts)
  | [], _ => (fine_of (by decide +kernel) : Fine 0 (Str.join ", " [])).mono (Nat.zero_le _)
  | [x], h => by
    show Fine (1 * (n + 2)) x
    exact (h x List.mem_cons_self).mono (by omega)
  | x :: y :: r, h => by
    have ih := fine_join (n := n) (ts := y :: r) fun t ht => h t (List.mem_cons_of_mem _ ht)
    show Fine _ (x ++ ", " ++ Str.join ", " (y :: r))
    have c2 : Fine 2 (", " : Str) := fine_of (by decide +kernel)
    refine (((h x List.mem_cons_self).app c2).app ih).mono ?_
    rw [List.length_cons (a := x), Nat.succ_mul]
    omega
theorem fine_tup {n : Nat} {ts : List Str} (h : ∀ t ∈ ts, Fine n t) : Fine (ts.length * (n + 2) + 3) (tupleText ts) := by
  unfold tupleText
  have c1 : Fine 1 ("(" : Str) := fine_of (by decide +kernel)
  have c2 : Fine 2 ((if ts.length == 1 then ",)" else ")" : String) : Str) := by
    split
    · exact fine_of (by decide +kernel)
    · exact fine_of (by decide +kernel)
  exact ((c1.app (fine_join h)).app c2).mono (by omega)
theorem sign_shown : ∀ {c : Nat}, c ∈ signsC → Fine 10 (PyData.shown (.str ⟨#[c]⟩)) := by
  have all : (signsC.all fun c => decide ((reprText ⟨#[c]⟩).length ≤ 10) && (reprText ⟨#[c]⟩).cps.toList.all fun c => decide (c < 0x110000)) = true := by decide +kernel
  intro c hc
  have z := List.all_eq_true.mp all c hc
  simp only [PyData.shown]
  exact fine_of z
theorem shownAll_map : ∀ xs : List D, PyData.shownAll xs = xs.map PyData.shown
  | [] => by simp [PyData.shownAll]
  | x :: xs => by simp [PyData.shownAll, shownAll_map xs]
theorem pair_shown {a b : Nat} (ha : a ∈ signsC) (hb : b ∈ signsC) : Fine 30 (PyData.shown (.tuple [.str ⟨#[a]⟩, .str ⟨#[b]⟩])) := by
  simp only [PyData.shown]
  rw [shownAll_map]
  refine (fine_tup (n := 10) (fun t ht => ?_)).mono (by show 2 * (10 + 2) + 3 ≤ 30; decide)
  simp only [List.map_cons, List.map_nil, List.mem_cons, List.not_mem_nil, or_false] at ht
  rcases ht with e | e
  · rw [e]; exact sign_shown ha
  · rw [e]; exact sign_shown hb
theorem prD_flat (q : Nat) (lo : 3 ≤ q) (hi : q ≤ 12) (l : List Nat) : ((prD l q).showable && !(prD l q).hasDict && decide ((prD l q).depth ≤ 60)) = true := by
  rcases (by omega : q = 3 ∨ q = 4 ∨ q = 5 ∨ q = 6 ∨ q = 7 ∨ q = 8 ∨ q = 9 ∨ q = 10 ∨ q = 11 ∨ q = 12) with h | h | h | h | h | h | h | h | h | h
  all_goals
    subst h
    kernel_rfl
theorem repr_is {l : List Nat} (g : Good l) : ∃ r, reprD (prD l l.length) = some (.str r) ∧ SeqAt.shaped (.str r) = true := by
  have fl := prD_flat l.length g.lo g.hi l
  have sh : Fine (12 * 32 + 3) (PyData.shown (prD l l.length)) := by
    unfold prD
    simp only [PyData.shown]
    rw [shownAll_map, List.map_map]
    refine (fine_tup (n := 30) fun t ht => ?_).mono ?_
    · obtain ⟨i, hi, e⟩ := List.mem_map.mp ht
      have hi := List.mem_range.mp hi
      rw [← e]
      have h2 : nx l.length i < l.length := Nat.mod_lt _ (by have := g.lo; omega)
      exact pair_shown (g.sg _ (get_mem hi)) (g.sg _ (get_mem h2))
    · rw [List.length_map, List.length_range]
      have := g.hi
      omega
  refine ⟨PyData.shown (prD l l.length), ?_, ?_⟩
  · have c : ((prD l l.length).showable && !(prD l l.length).hasDict && decide ((prD l l.length).depth ≤ 60) && decide ((prD l l.length).shown.length ≤ 1000000)) = true := by
      rw [fl, decide_eq_true (by have := sh.1; omega)]
      rfl
    exact if_pos c
  · unfold SeqAt.shaped
    rw [Bool.and_eq_true]
    refine ⟨?_, ?_⟩
    · simp only [PyData.canLay0]
      unfold PyData.strOk
      rw [Array.all_eq_true_iff_forall_mem]
      intro c hc
      exact decide_eq_true (sh.2 c (by simpa using hc))
    · simp [PyData.depth]
/-! ### the figures -/
def bodyI : RS := (rSeq (rApp 1 (rBin modD (rVar 3) (rC (.int 24))))
  (rSeq (rSet 3 (rBin fdivD (rVar 3) (rC (.int 24))))
  (rIf (rBin eqD (rVar 3) (rC (.int 0)))
  (fun ρ L => .brk ρ L)
  rNext)))
def bodyO : RS := (rSeq (rSet 3 (rBin modD (rCl intD (aCons (rBin ixD (rVar 0) (rVar 2)) aNil)) (rBin powD (rC (.int 24)) (rC (.int 20)))))
  (rFor (iRg1 (aCons (rC (.int 20)) aNil)) (gN 4)
  bodyI))
def Figs (fs : List Int) : Prop := ∀ x ∈ fs, 0 ≤ x ∧ x < 24
theorem mod24 (i : Int) : modD (.int i) (.int 24) = some (.int (i % 24)) := by
  unfold modD
  exact if_pos (by decide)
theorem div24 (i : Int) : fdivD (.int i) (.int 24) = some (.int (i / 24)) := by
  unfold fdivD
  exact if_pos ⟨by decide, by decide +kernel⟩
theorem map_app (fs : List Int) (i : Int) : (fs ++ [i]).map PyData.int = fs.map PyData.int ++ [PyData.int i] := by rw [List.map_append]; rfl
theorem loopI {scr a : Sl} : ∀ (n : Nat) (lo : Int) (fs : List Int) (r : Int) (t : Sl), 0 ≤ r → Figs fs → fs.length + n ≤ 1000 →
    ∃ fs' r' t', loopD (gN 4) bodyI (rangeD lo n) [scr, .own 0, a, .dat (.int r), t] [some (fs.map .int)] = .next [scr, .own 0, a, .dat (.int r'), t'] [some (fs'.map .int)] ∧ 0 ≤ r' ∧ Figs fs' ∧ fs'.length ≤ fs.length + n
  | 0, lo, fs, r, t, h0, hf, hl => ⟨fs, r, t, rfl, h0, hf, Nat.le_refl _⟩
  | n + 1, lo, fs, r, t, h0, hf, hl => by
    have f2 : Figs (fs ++ [r % 24]) := fun x hx => by
      rcases List.mem_append.mp hx with h | h
      · exact hf x h
      · rw [List.mem_singleton.mp h]
        omega
    have l2 : (fs ++ [r % 24]).length = fs.length + 1 := by rw [List.length_append, List.length_singleton]
    have s1 : rApp 1 (rBin modD (rVar 3) (rC (.int 24))) [scr, .own 0, a, .dat (.int r), .dat (.int lo)] [some (fs.map .int)] = .next [scr, .own 0, a, .dat (.int r), .dat (.int lo)] [some ((fs ++ [r % 24]).map .int)] := by
      rw [map_app]
      exact s_app (k := 0) (es := fs.map .int) (ds := fs.map .int) (L1 := [some (fs.map .int)]) (d := .int (r % 24)) rfl rfl (e_bin (x := .int r) rfl rfl (mod24 r)) rfl (by rw [List.length_map]; omega)
    have s2 : rSet 3 (rBin fdivD (rVar 3) (rC (.int 24))) [scr, .own 0, a, .dat (.int r), .dat (.int lo)] [some ((fs ++ [r % 24]).map .int)] = .next [scr, .own 0, a, .dat (.int (r / 24)), .dat (.int lo)] [some ((fs ++ [r % 24]).map .int)] := s_set (e_bin (x := .int r) rfl rfl (div24 r))
    have tq : rBin eqD (rVar 3) (rC (.int 0)) [scr, .own 0, a, .dat (.int (r / 24)), .dat (.int lo)] [some ((fs ++ [r % 24]).map .int)] = .ok (.bool (decide (r / 24 = 0))) [some ((fs ++ [r % 24]).map .int)] := e_bin (x := .int (r / 24)) rfl rfl (eq_int _ _)
    rw [range_cons]
    by_cases z : r / 24 = 0
    · rw [decide_eq_true z] at tq
      exact ⟨fs ++ [r % 24], r / 24, .dat (.int lo), lp_brk rfl (sq s1 (sq s2 (if_t tq rfl))), by omega, f2, by rw [l2]; omega⟩
    · rw [decide_eq_false z] at tq
      obtain ⟨fs', r', t', e, h0', hf', hl'⟩ := loopI n (lo + 1) (fs ++ [r % 24]) (r / 24) (.dat (.int lo)) (by omega) f2 (by rw [l2]; omega)
      exact ⟨fs', r', t', lp_next rfl (sq s1 (sq s2 (if_f tq rfl))) e, h0', hf', by rw [l2] at hl'; omega⟩
theorem loopO {ns : List Int} : ∀ (n i : Nat) (fs : List Int) (a r t : Sl), i + n ≤ ns.length → Figs fs → fs.length + n * 20 ≤ 1000 →
    ∃ fs' a' r' t', loopD (gN 2) bodyO (rangeD i n) [.dat (.list (ns.map .int)), .own 0, a, r, t] [some (fs.map .int)] = .next [.dat (.list (ns.map .int)), .own 0, a', r', t'] [some (fs'.map .int)] ∧ Figs fs' ∧ fs'.length ≤ 1000
  | 0, i, fs, a, r, t, hi, hf, hl => ⟨fs, a, r, t, rfl, hf, by omega⟩
  | n + 1, i, fs, a, r, t, hi, hf, hl => by
    have lt : i < ns.length := by omega
    have ix : ixD (.list (ns.map .int)) (.int (i : Int)) = some (.int ns[i]) := by
      show L2.atI (ns.map PyData.int) (i : Int) = _
      exact L2.atI_nat (by rw [List.getElem?_map, List.getElem?_eq_getElem lt]; rfl)
    have pw : powD (.int 24) (.int 20) = some (.int (24 ^ 20)) := by
      show (if (0 : Int) ≤ 20 ∧ (20 : Int) ≤ 1000000 ∧ (24 : Int).natAbs < 2 ^ 64 then some (PyData.int ((24 : Int) ^ (20 : Int).toNat)) else none) = _
      exact (if_pos ⟨by decide, by decide, by decide⟩).trans rfl
    have md : modD (.int ns[i]) (.int (24 ^ 20)) = some (.int (ns[i] % 24 ^ 20)) := by
      unfold modD
      exact if_pos (by decide)
    obtain ⟨fs1, r1, t1, e1, g1, f1, l1⟩ := loopI (scr := .dat (.list (ns.map .int))) (a := .dat (.int i)) 20 0 fs (ns[i] % 24 ^ 20) t (Int.emod_nonneg _ (by decide)) hf (by omega)
    obtain ⟨fs', a', r', t', e, hf', hl'⟩ := loopO (ns := ns) n (i + 1) fs1 (.dat (.int i)) (.dat (.int r1)) t1 (by omega) f1 (by omega)
    refine ⟨fs', a', r', t', ?_, hf', hl'⟩
    rw [range_cons]
    have ii : ((i : Int) + 1) = ((i + 1 : Nat) : Int) := by omega
    rw [ii]
    refine lp_next rfl (sq (s_set (z := .int (ns[i] % 24 ^ 20)) (e_bin (e_cl1 (e_bin (x := .list (ns.map .int)) (y := .int (i : Int)) rfl rfl ix) rfl) (e_bin (x := .int 24) (y := .int 20) rfl rfl pw) md)) (fr (ds := rangeD 0 20) (L' := [some (fs.map .int)]) ?_ e1)) e
    exact rg1_is (j := 20) rfl (small_is (by decide) (by decide))
theorem purse_is (ns : List Int) : ∃ figs : List Int, Figs figs ∧ figs.length ≤ 1000 ∧ f__law_purse [.dat (.list (ns.map .int))] [] = .ok [.dat (.int 0), .dat (.list (figs.map .int))] [none] := by
  obtain ⟨fs', a', r', t', e, hf, hl⟩ := loopO (ns := ns) (min ns.length 24) 0 [] .no .no .no (by omega) (fun x hx => by cases hx) (by rw [List.length_nil]; omega)
  refine ⟨fs', hf, hl, ?_⟩
  have ln : lenD [.list (ns.map .int)] = some (.int ns.length) := by
    show some (PyData.int ((ns.map PyData.int).length : Nat)) = _
    rw [List.length_map]
  have mn : minD [.int ns.length, .int 24] = some (.int ((min ns.length 24 : Nat) : Int)) := by
    show some (PyData.int (if (24 : Int) < (ns.length : Int) then 24 else (ns.length : Int))) = _
    split
    · rw [show min ns.length 24 = 24 by omega]
      rfl
    · rw [show min ns.length 24 = ns.length by omega]
  have rg : (iRg1 (aCons (rCl minD (aCons (rCl lenD (aCons (rVar 0) aNil)) (aCons (rC (.int 24)) aNil))) aNil)) [.dat (.list (ns.map .int)), .own 0, .no, .no, .no] [some []] = .ok (rangeD 0 (min ns.length 24)) [some []] := by
    have z := rg1_is (ra := rCl minD (aCons (rCl lenD (aCons (rVar 0) aNil)) (aCons (rC (.int 24)) aNil))) (ρ := [.dat (.list (ns.map .int)), .own 0, .no, .no, .no]) (L := [some []]) (L1 := [some []]) (j := ((min ns.length 24 : Nat) : Int)) (e_cl (a_cons (e_cl1 (x := .list (ns.map .int)) rfl ln) (a_cons rfl a_nil)) rfl mn) (small_is (by omega) (by omega))
    rw [Int.toNat_natCast] at z
    exact z
  have pre : b__law_purse [.dat (.list (ns.map .int)), .no, .no, .no, .no] [] = .next [.dat (.list (ns.map .int)), .dat (.list (fs'.map .int)), a', r', t'] [none] := by
    unfold b__law_purse
    refine sq (ρ' := [.dat (.list (ns.map .int)), .own 0, .no, .no, .no]) (L' := [some []]) rfl ?_
    refine sq (fr rg e) rfl
  unfold f__law_purse rPre
  show (match b__law_purse [.dat (.list (ns.map .int)), .no, .no, .no, .no] [] with | .next ρ' L' => (aCons (rC (.int 0)) (aCons (rVar 1) aNil)) ρ' L' | _ => .stuck) = _
  rw [pre]
  rfl
/-! ### what is picked -/
def PL (at_ : Nat) (figs : List Int) : Sto := [some [.int at_, .list (figs.map .int)]]
def pk (at_ : Nat) (figs : List Int) (many : Int) : Int := if figs.length ≤ at_ then 0 else figs.getD at_ 0 % many
theorem pk_bd {at_ : Nat} {figs : List Int} {many : Int} (hm : 0 < many) : 0 ≤ pk at_ figs many ∧ pk at_ figs many < many := by
  unfold pk
  split
  · omega
  · exact ⟨Int.emod_nonneg _ (by omega), Int.emod_lt_of_pos _ hm⟩
theorem pick_is {at_ : Nat} {figs : List Int} {many : Int} (hm : 0 < many) : f__law_pick [.own 0, .dat (.int many)] (PL at_ figs) = .ok (.int (pk at_ figs many)) (PL (at_ + 1) figs) := by
  have ln : lenD [.list (figs.map .int)] = some (.int figs.length) := by
    show some (PyData.int ((figs.map PyData.int).length : Nat)) = _
    rw [List.length_map]
  have a1 : ((at_ : Int) + 1) = ((at_ + 1 : Nat) : Int) := by omega
  unfold f__law_pick b__law_pick
  refine bd_ret (sq (ρ' := [.own 0, .dat (.int many), .dat (.int at_)]) (L' := PL at_ figs) rfl ?_)
  refine sq (ρ' := [.own 0, .dat (.int many), .dat (.int at_)]) (L' := PL (at_ + 1) figs) ?_ ?_
  · show Flw.next _ [some [.int ((at_ : Int) + 1), .list (figs.map .int)]] = _
    rw [a1]
    rfl
  · have tq : rLook (rBin (cmpD fun i j => decide (j ≤ i)) (rVar 2) (rCl lenD (aCons (rBin ixD (rVar 0) (rC (.int 1))) aNil))) [.own 0, .dat (.int many), .dat (.int at_)] (PL (at_ + 1) figs) = .ok (.bool (decide ((figs.length : Int) ≤ (at_ : Int)))) (PL (at_ + 1) figs) :=
      e_look (e_bin (x := .int at_) rfl (e_cl1 (e_bin (x := .list [.int ((at_ + 1 : Nat) : Int), .list (figs.map .int)]) rfl rfl rfl) ln) rfl) rfl
    by_cases h : figs.length ≤ at_
    · rw [decide_eq_true (by omega)] at tq
      have e : pk at_ figs many = 0 := if_pos h
      rw [e]
      exact sq_ret (if_t tq rfl)
    · rw [decide_eq_false (by omega)] at tq
      have e : pk at_ figs many = figs.getD at_ 0 % many := if_neg h
      have lt : at_ < figs.length := by omega
      have ix : ixD (.list (figs.map .int)) (.int (at_ : Int)) = some (.int (figs.getD at_ 0)) := by
        show L2.atI (figs.map PyData.int) (at_ : Int) = _
        refine L2.atI_nat ?_
        rw [List.getElem?_map, List.getElem?_eq_getElem lt, List.getD_eq_getElem?_getD, List.getElem?_eq_getElem lt]
        rfl
      have md : modD (.int (figs.getD at_ 0)) (.int many) = some (.int (figs.getD at_ 0 % many)) := by
        unfold modD
        exact if_pos hm
      rw [e]
      refine sq (if_f tq rfl) (s_ret (e_look (e_bin (e_bin (e_bin (x := .list [.int ((at_ + 1 : Nat) : Int), .list (figs.map .int)]) rfl rfl rfl) (y := .int (at_ : Int)) rfl ix) (y := .int many) rfl md) rfl))
theorem pick_call {at_ : Nat} {figs : List Int} {many : Int} (hm : 0 < many) {i : Nat} {ρ : En} (h : ρ[i]? = some (.own 0)) {ra : RE} (ha : ra ρ (PL at_ figs) = .ok (.int many) (PL at_ figs)) : rCall 2 f__law_pick (aOwn i (aCons ra aNil)) ρ (PL at_ figs) = .ok (.int (pk at_ figs many)) (PL (at_ + 1) figs) := by
  have ar : (aOwn i (aCons ra aNil)) ρ (PL at_ figs) = .ok [.own 0, .dat (.int many)] (PL at_ figs) := by
    unfold aOwn
    rw [h]
    show bindAA ((aCons ra aNil) ρ (PL at_ figs)) _ = _
    rw [a_cons ha a_nil]
    rfl
  exact e_call ar rfl (pick_is hm)
end Sh
set_option maxRecDepth 100000
set_option maxHeartbeats 4000000
/-! Q4: the plain law of the rings: great numbers, letters, the whole. -/
namespace Sh
open PySem
/-! ### great numbers -/
def bodyG : RS := (rSet 2 (rBin addD (rBin mulD (rVar 2) (rC (.int 24))) (rCall 2 f__law_pick (aOwn 0 (aCons (rC (.int 24)) aNil)))))
theorem bd24 {g : Int} {k : Nat} (h0 : 0 ≤ g) (h : g < ((24 ^ k : Nat) : Int)) (hk : k ≤ 20) : Bd 100 g := by
  unfold Bd
  have h1 : (24 : Nat) ^ k ≤ 24 ^ 20 := Nat.pow_le_pow_right (by decide) hk
  have h2 : (24 : Nat) ^ 20 < 2 ^ 100 := by decide
  have h3 : g.natAbs < 24 ^ k := by omega
  exact Nat.lt_trans (Nat.lt_of_lt_of_le h3 h1) h2
theorem loopG {figs : List Int} {m : Sl} : ∀ (n : Nat) (lo : Int) (g : Int) (at_ k : Nat) (t : Sl), 0 ≤ g → g < ((24 ^ k : Nat) : Int) → k + n ≤ 20 →
    ∃ g' t', loopD (gN 3) bodyG (rangeD lo n) [.own 0, m, .dat (.int g), t] (PL at_ figs) = .next [.own 0, m, .dat (.int g'), t'] (PL (at_ + n) figs) ∧ 0 ≤ g' ∧ g' < ((24 ^ (k + n) : Nat) : Int)
  | 0, lo, g, at_, k, t, h0, h1, hk => ⟨g, t, rfl, h0, h1⟩
  | n + 1, lo, g, at_, k, t, h0, h1, hk => by
    have pb := pk_bd (at_ := at_) (figs := figs) (many := 24) (by decide)
    have p24 : ((24 ^ (k + 1) : Nat) : Int) = ((24 ^ k : Nat) : Int) * 24 := by rw [Nat.pow_succ]; omega
    obtain ⟨g', t', e, h0', h1'⟩ := loopG (figs := figs) (m := m) n (lo + 1) (g * 24 + pk at_ figs 24) (at_ + 1) (k + 1) (.dat (.int lo)) (by omega) (by rw [p24]; omega) (by omega)
    refine ⟨g', t', ?_, h0', by rw [show k + (n + 1) = k + 1 + n by omega]; exact h1'⟩
    rw [range_cons]
    have ml := mul_ok (bd24 h0 h1 (by omega)) (show Bd 10 24 by unfold Bd; decide) (by decide)
    rw [show at_ + (n + 1) = at_ + 1 + n by omega]
    exact lp_next rfl (s_set (e_bin (e_bin (x := .int g) rfl rfl ml) (pick_call (by decide) rfl rfl) rfl)) e
theorem great_is {at_ : Nat} {figs : List Int} {n : Nat} (hn : n ≤ 20) : ∃ g : Int, 0 ≤ g ∧ Bd 100 g ∧ f__law_great [.own 0, .dat (.int n)] (PL at_ figs) = .ok (.int g) (PL (at_ + n) figs) := by
  obtain ⟨g, t', e, h0, h1⟩ := loopG (figs := figs) (m := .dat (.int n)) n 0 0 at_ 0 .no (by decide) (by decide) (by omega)
  refine ⟨g, h0, bd24 h0 h1 (by omega), ?_⟩
  unfold f__law_great b__law_great
  refine bd_ret (sq (ρ' := [.own 0, .dat (.int n), .dat (.int 0), .no]) (L' := PL at_ figs) rfl (sq (fr (ds := rangeD 0 n) (L' := PL at_ figs) ?_ e) rfl))
  have z := rg1_is (ra := rVar 1) (ρ := [.own 0, .dat (.int n), .dat (.int 0), .no]) (L := PL at_ figs) (L1 := PL at_ figs) (j := (n : Int)) rfl (small_is (by omega) (by omega))
  rw [Int.toNat_natCast] at z
  exact z
theorem great_call {at_ : Nat} {figs : List Int} {n : Nat} (hn : n ≤ 20) {ρ : En} (h : ρ[1]? = some (.own 0)) : ∃ g : Int, 0 ≤ g ∧ Bd 100 g ∧ rCall 2 f__law_great (aOwn 1 (aCons (rC (.int n)) aNil)) ρ (PL at_ figs) = .ok (.int g) (PL (at_ + n) figs) := by
  obtain ⟨g, h0, hb, e⟩ := great_is (at_ := at_) (figs := figs) hn
  refine ⟨g, h0, hb, ?_⟩
  have ar : (aOwn 1 (aCons (rC (.int n)) aNil)) ρ (PL at_ figs) = .ok [.own 0, .dat (.int n)] (PL at_ figs) := by
    unfold aOwn
    rw [h]
    rfl
  exact e_call ar rfl e
/-! ### letters drawn -/
theorem e_slc {f : D → Option Int → Option Int → Option D} {re rl rh : RE} {ρ : En} {L L1 L2 L3 : Sto} {x l u z : D} {lo hi : Option Int} (he : re ρ L = .ok x L1) (hl : rl ρ L1 = .ok l L2) (ol : optI l = some lo) (hu : rh ρ L2 = .ok u L3) (ou : optI u = some hi) (hf : f x lo hi = some z) : rSlc f re rl rh ρ L = .ok z L3 := by
  unfold rSlc
  rw [he]
  show bindE (rl ρ L1) _ = _
  rw [hl]
  show (match optI l with | none => Res.stuck | some l => bindE (rh ρ L2) fun u L3 => match optI u with | none => .stuck | some u => giveE (f x l u) L3) = _
  rw [ol]
  show bindE (rh ρ L2) _ = _
  rw [hu]
  show (match optI u with | none => Res.stuck | some u => giveE (f x lo u) L3) = _
  rw [ou]
  show giveE (f x lo hi) L3 = _
  rw [hf]
  rfl
theorem base_at {b : Int} (h0 : 0 ≤ b) (h4 : b < 4) : ∃ z, z ∈ bases ∧ ixD (.tuple bases) (.int b) = some z := by
  rcases (by omega : b = 0 ∨ b = 1 ∨ b = 2 ∨ b = 3) with h | h | h | h
  all_goals
    subst h
    exact ⟨_, by simp [bases], rfl⟩
theorem turned_ok {z : D} (hz : z ∈ bases) {s : Int} (h0 : 0 ≤ s) (h12 : s < 12) {q : Nat} (lo : 3 ≤ q) (hi : q ≤ 12) : ∃ l, Good l ∧ l.length = q ∧ turned z s q = some (.str (tx l)) := by
  have ck := List.all_eq_true.mp (List.all_eq_true.mp (List.all_eq_true.mp let_chk z hz) s.toNat (List.mem_range.mpr (by omega))) (q - 3) (List.mem_range.mpr (by omega))
  rw [show q - 3 + 3 = q by omega, Int.toNat_of_nonneg h0] at ck
  cases ht : turned z s (q : Int) with
  | none => rw [ht] at ck; cases ck
  | some d =>
    rw [ht] at ck
    cases d with
    | str w =>
      have ck : (decide (w.cps.toList.length = q) && decide (w.cps.toList.Nodup) && w.cps.toList.all (fun c => signsC.contains c)) = true := ck
      rw [Bool.and_eq_true, Bool.and_eq_true] at ck
      obtain ⟨⟨c1, c2⟩, c3⟩ := ck
      have c1 := of_decide_eq_true c1
      refine ⟨w.cps.toList, ⟨of_decide_eq_true c2, by omega, by omega, fun c hc => ?_⟩, c1, ?_⟩
      · have := List.all_eq_true.mp c3 c hc
        simpa using this
      · have e : tx w.cps.toList = w := by
          cases w
          simp [tx]
        rw [e]
    | none => cases ck
    | bool _ => cases ck
    | int _ => cases ck
    | list _ => cases ck
    | tuple _ => cases ck
    | dict _ => cases ck
theorem letters_draw {at_ : Nat} {figs : List Int} {q : Nat} (lo : 3 ≤ q) (hi : q ≤ 12) : ∃ l, Good l ∧ l.length = q ∧ f__law_ring_letters [.own 0, .dat (.int q)] (PL at_ figs) = .ok (.str (tx l)) (PL (at_ + 2) figs) := by
  have b4 := pk_bd (at_ := at_) (figs := figs) (many := 4) (by decide)
  have b12 := pk_bd (at_ := at_ + 1) (figs := figs) (many := 12) (by decide)
  obtain ⟨z, hz, ez⟩ := base_at b4.1 b4.2
  obtain ⟨l, g, hl, et⟩ := turned_ok hz b12.1 b12.2 lo hi
  refine ⟨l, g, hl, ?_⟩
  unfold turned at et
  cases e1 : cutD z (some (pk (at_ + 1) figs 12)) none with
  | none => rw [e1] at et; cases et
  | some x =>
    cases e2 : cutD z none (some (pk (at_ + 1) figs 12)) with
    | none => rw [e1, e2] at et; cases et
    | some y =>
      rw [e1, e2] at et
      have et : (match addD x y with | some w => cutD w none (some (q : Int)) | none => none) = some (.str (tx l)) := et
      cases e3 : addD x y with
      | none => rw [e3] at et; cases et
      | some w =>
        rw [e3] at et
        have et : cutD w none (some (q : Int)) = some (.str (tx l)) := et
        unfold f__law_ring_letters b__law_ring_letters
        refine bd_ret (sq (ρ' := [.own 0, .dat (.int q), .dat z, .no]) (L' := PL (at_ + 1) figs) (s_set (e_bin (x := .tuple bases) rfl (pick_call (by decide) rfl rfl) ez)) ?_)
        refine sq (ρ' := [.own 0, .dat (.int q), .dat z, .dat (.int (pk (at_ + 1) figs 12))]) (L' := PL (at_ + 1 + 1) figs) (s_set (pick_call (by decide) rfl rfl)) ?_
        exact s_ret (e_slc (e_bin (e_slc (x := z) (l := .int (pk (at_ + 1) figs 12)) (u := .none) rfl rfl rfl rfl rfl e1) (e_slc (x := z) (l := .none) (u := .int (pk (at_ + 1) figs 12)) rfl rfl rfl rfl rfl e2) e3) (l := .none) (u := .int q) rfl rfl rfl rfl et)
theorem letters_call {at_ : Nat} {figs : List Int} {q : Nat} (lo : 3 ≤ q) (hi : q ≤ 12) {ρ : En} (h : ρ[1]? = some (.own 0)) (h3 : ρ[3]? = some (.dat (.int q))) :
    ∃ l, Good l ∧ l.length = q ∧ rCall 2 f__law_ring_letters (aOwn 1 (aCons (rVar 3) aNil)) ρ (PL at_ figs) = .ok (.str (tx l)) (PL (at_ + 2) figs) := by
  obtain ⟨l, g, hl, e⟩ := letters_draw (at_ := at_) (figs := figs) lo hi
  refine ⟨l, g, hl, ?_⟩
  have ar : (aOwn 1 (aCons (rVar 3) aNil)) ρ (PL at_ figs) = .ok [.own 0, .dat (.int q)] (PL at_ figs) := by
    unfold aOwn
    rw [h]
    have v : rVar 3 ρ (PL at_ figs) = .ok (.int q) (PL at_ figs) := by
      unfold rVar
      rw [h3]
    show bindAA ((aCons (rVar 3) aNil) ρ (PL at_ figs)) _ = _
    rw [a_cons v a_nil]
    rfl
  exact e_call ar rfl e
/-! ### the whole -/
def bodyF : RS := (rSeq (rSet 5 (rCall 2 f__law_ring_letters (aOwn 1 (aCons (rVar 3) aNil))))
  (rIf (rOr (rNot (rCall 1 f__law_names_right (aCons (rVar 5) aNil))) (rNot (rCall 3 f__law_numbers (aCons (rVar 3) (aCons (rCall 1 f__law_most (aCons (rVar 3) aNil)) (aCons (rC (.int 2)) aNil))))))
  (rRet (rC (.bool false)))
  rNext))
def bodyH : RS := (rIf (rNot (rCall 3 f__law_numbers (aCons (rVar 3) (aCons (rBin subD (rVar 3) (rC (.int 3))) (aCons (rBin subD (rVar 3) (rC (.int 3))) aNil)))))
  (rRet (rC (.bool false)))
  rNext)
theorem most_bd {q : Nat} (hi : q ≤ 12) : 0 ≤ mostI q ∧ Bd 400 (mostI q) := by
  have b1 : Bd 4 (q : Int) := by
    unfold Bd
    have : (q : Int).natAbs = q := by omega
    rw [this]
    exact Nat.lt_of_le_of_lt hi (by decide)
  have e := most_eq (show (0 : Int) ≤ q by omega)
  have h0 : 0 ≤ (q : Int) * ((q : Int) / 2) := Int.mul_nonneg (by omega) (by omega)
  rw [← e]
  exact ⟨by omega, ((b1.mul (b1.half (by omega))).half h0).mono (by decide)⟩
theorem turnF {s0 s2 s4 s5 : Sl} {at_ : Nat} {figs : List Int} {q : Nat} (lo : 3 ≤ q) (hi : q ≤ 12) : ∃ t, bodyF [s0, .own 0, s2, .dat (.int q), s4, s5] (PL at_ figs) = .next [s0, .own 0, s2, .dat (.int q), s4, t] (PL (at_ + 2) figs) := by
  obtain ⟨l, g, hl, e⟩ := letters_call (at_ := at_) (figs := figs) lo hi (ρ := [s0, .own 0, s2, .dat (.int q), s4, s5]) rfl rfl
  obtain ⟨r, rp, sh⟩ := repr_is g
  obtain ⟨L', nr, tk⟩ := names_right_is g rp sh (some [.int ((at_ + 2 : Nat) : Int), .list (figs.map .int)])
  have mb := most_bd hi
  have c1 : rCall 1 f__law_names_right (aCons (rVar 5) aNil) [s0, .own 0, s2, .dat (.int q), s4, .dat (.str (tx l))] (PL (at_ + 2) figs) = .ok (.bool true) (PL (at_ + 2) figs) := by
    have z := e_call (n := 1) (as := aCons (rVar 5) aNil) (ρ := [s0, .own 0, s2, .dat (.int q), s4, .dat (.str (tx l))]) (L := PL (at_ + 2) figs) (a_cons (x := .str (tx l)) rfl a_nil) rfl nr
    rw [show (PL (at_ + 2) figs).length = 1 from rfl, tk] at z
    exact z
  have c2 : rCall 3 f__law_numbers (aCons (rVar 3) (aCons (rCall 1 f__law_most (aCons (rVar 3) aNil)) (aCons (rC (.int 2)) aNil))) [s0, .own 0, s2, .dat (.int q), s4, .dat (.str (tx l))] (PL (at_ + 2) figs) = .ok (.bool true) (PL (at_ + 2) figs) :=
    e_call_same (a_cons (x := .int q) rfl (a_cons (e_call_same (a_cons (x := .int q) rfl a_nil) rfl (lmost_is (by omega) (small_bd hi))) (a_cons rfl a_nil))) rfl (numbers_is (by omega) (small_bd hi) mb.1 mb.2 (by decide) (by decide))
  exact ⟨.dat (.str (tx l)), sq (s_set e) (if_f (e_or_f (e_not c1) (e_not c2)) rfl)⟩
theorem loopH {s0 s2 s4 s5 : Sl} {L : Sto} : ∀ (n q : Nat) (t : Sl), 3 ≤ q → q + n ≤ 14 → ∃ t', loopD (gN 3) bodyH (rangeD q n) [s0, .own 0, s2, t, s4, s5] L = .next [s0, .own 0, s2, t', s4, s5] L
  | 0, q, t, _, _ => ⟨t, rfl⟩
  | n + 1, q, t, lo, hi => by
    obtain ⟨t', e⟩ := loopH (s0 := s0) (s2 := s2) (s4 := s4) (s5 := s5) (L := L) n (q + 1) (.dat (.int q)) (by omega) (by omega)
    refine ⟨t', ?_⟩
    rw [range_cons, show ((q : Int) + 1) = ((q + 1 : Nat) : Int) by omega]
    have bq : ∀ {i : Int}, 0 ≤ i → i ≤ 14 → Bd 400 i := fun {i} h0 h1 => by
      have : Bd 4 i := by
        unfold Bd
        have : i.natAbs ≤ 14 := by omega
        exact Nat.lt_of_le_of_lt this (by decide)
      exact this.mono (by decide)
    refine lp_next rfl (if_f (L' := L) (e_not (e_call_same (a_cons (x := .int q) rfl (a_cons (e_bin (x := .int q) rfl rfl rfl) (a_cons (e_bin (x := .int q) rfl rfl rfl) a_nil))) rfl (numbers_is (by omega) (bq (by omega) (by omega)) (by omega) (bq (by omega) (by omega)) (by omega) (by omega)))) rfl) e
theorem first_at {p : Int} (h0 : 0 ≤ p) (h10 : p < 10) : ∃ f : Nat, 3 ≤ f ∧ f ≤ 12 ∧ ixD (.tuple [.int 5, .int 3, .int 4, .int 6, .int 7, .int 8, .int 9, .int 10, .int 11, .int 12]) (.int p) = some (.int f) := by
  rcases (by omega : p = 0 ∨ p = 1 ∨ p = 2 ∨ p = 3 ∨ p = 4 ∨ p = 5 ∨ p = 6 ∨ p = 7 ∨ p = 8 ∨ p = 9) with h | h | h | h | h | h | h | h | h | h
  · subst h; exact ⟨5, by decide, by decide, rfl⟩
  · subst h; exact ⟨3, by decide, by decide, rfl⟩
  · subst h; exact ⟨4, by decide, by decide, rfl⟩
  · subst h; exact ⟨6, by decide, by decide, rfl⟩
  · subst h; exact ⟨7, by decide, by decide, rfl⟩
  · subst h; exact ⟨8, by decide, by decide, rfl⟩
  · subst h; exact ⟨9, by decide, by decide, rfl⟩
  · subst h; exact ⟨10, by decide, by decide, rfl⟩
  · subst h; exact ⟨11, by decide, by decide, rfl⟩
  · subst h; exact ⟨12, by decide, by decide, rfl⟩
end Sh
set_option maxRecDepth 100000
set_option maxHeartbeats 4000000
/-! Q5: the plain law of the rings: all lots of the ring of five. -/
namespace Sh
open PySem
def l5 : List Nat := [97, 98, 99, 100, 101]
theorem abcde : ("abcde" : Str) = tx l5 := by decide +kernel
theorem good5 : Good l5 := ⟨by decide, by decide, by decide, by decide +kernel⟩
def names5 : List D := (List.range 25).map fun i => nm l5 (i / 5, i % 5)
theorem pairs5 (L : Sto) : f__law_pairs [.dat (.str "abcde")] L = .ok (.list names5) L := by kernel_rfl
def tab5 : List Nat := [19923571, 7340263, 14680526, 29361052, 26215225, 20083, 7399, 14798, 29596, 26425, 642656, 236768, 473536, 947072, 845600, 20564992, 7576576, 15153152, 30306304, 27059200, 20545555, 7569415, 15138830, 30277660, 27033625]
def nearT (i k : Nat) : Bool := (tab5.getD k 0).testBit i
theorem tab_all : ((List.range 25).all fun i => (List.range 25).all fun k => (nearB 5 (i / 5) (k / 5) && nearB 5 (i % 5) (k % 5)) == nearT i k) = true := by decide +kernel
theorem tab_is {i k : Nat} (hi : i < 25) (hk : k < 25) : (nearB 5 (i / 5) (k / 5) && nearB 5 (i % 5) (k % 5)) = nearT i k := by
  have h := List.all_eq_true.mp (List.all_eq_true.mp tab_all i (List.mem_range.mpr hi)) k (List.mem_range.mpr hk)
  exact eq_of_beq h
theorem two5 {i k : Nat} (hi : i < 25) (hk : k < 25) (L : Sto) : f__law_two_near [.dat (.str "abcde"), .dat (nm l5 (i / 5, i % 5)), .dat (nm l5 (k / 5, k % 5))] L = .ok (.bool (nearT i k)) L := by
  have z := two_near_is good5.nd good5.lo good5.hi (p := (i / 5, i % 5)) (p' := (k / 5, k % 5)) (show i / 5 < 5 by omega) (show i % 5 < 5 by omega) (show k / 5 < 5 by omega) (show k % 5 < 5 by omega) L
  rw [← abcde, show l5.length = 5 from rfl, tab_is hi hk] at z
  exact z
theorem name5 {i : Nat} (hi : i < 25) : ixD (.list names5) (.int (i : Int)) = some (nm l5 (i / 5, i % 5)) := by
  show L2.atI names5 (i : Int) = _
  refine L2.atI_nat ?_
  unfold names5
  rw [List.getElem?_map, List.getElem?_eq_getElem (by rw [List.length_range]; exact hi), List.getElem_range]
  rfl
def numD (i : Nat) : D := .int i
def lotD (lot : List Nat) : D := .tuple (lot.map numD)
/-! ### what stands shaped -/
theorem lay_nums : ∀ l : List Nat, PyData.canLayAll0 (l.map numD) = true
  | [] => by simp [PyData.canLayAll0]
  | i :: l => by simp [PyData.canLayAll0, PyData.canLay0, numD, lay_nums l]
theorem deep_nums : ∀ l : List Nat, PyData.depthAll (l.map numD) = 0
  | [] => by simp [PyData.depthAll]
  | i :: l => by simp [PyData.depthAll, PyData.depth, numD, deep_nums l]
theorem shaped_lot (lot : List Nat) : SeqAt.shaped (lotD lot) = true := by
  unfold SeqAt.shaped lotD
  simp [PyData.canLay0, PyData.depth, lay_nums, deep_nums]
theorem lay_lots : ∀ l : List (List Nat), PyData.canLayAll0 (l.map lotD) = true
  | [] => by simp [PyData.canLayAll0]
  | i :: l => by
    have h := lay_nums i
    simp [PyData.canLayAll0, lotD, PyData.canLay0, h, lay_lots l]
theorem deep_lots : ∀ l : List (List Nat), PyData.depthAll (l.map lotD) ≤ 1
  | [] => by simp [PyData.depthAll]
  | i :: l => by
    have h := deep_nums i
    have := deep_lots l
    simp [PyData.depthAll, lotD, PyData.depth, h]
    exact Nat.max_le.mpr ⟨Nat.le_refl _, this⟩
theorem shaped_lots (lots : List (List Nat)) : SeqAt.shaped (.list (lots.map lotD)) = true := by
  unfold SeqAt.shaped
  have := deep_lots lots
  simp [PyData.canLay0, PyData.depth, lay_lots]
  omega
theorem no_lot (lot : List Nat) : neD (lotD lot) (.tuple []) = some (.bool (!lot.isEmpty)) := by
  have s0 : SeqAt.shaped (.tuple []) = true := by decide +kernel
  unfold neD
  rw [shaped_lot, s0]
  cases lot with
  | nil => simp [lotD, PyData.eqv, PyData.eqvAll]
  | cons i l => simp [lotD, PyData.eqv, PyData.eqvAll]
theorem no_lots (lots : List (List Nat)) : eqD (.list (lots.map lotD)) (.list []) = some (.bool lots.isEmpty) := by
  have s0 : SeqAt.shaped (.list []) = true := by decide +kernel
  unfold eqD
  rw [shaped_lots, s0]
  cases lots with
  | nil => simp [PyData.eqv, PyData.eqvAll]
  | cons i l => simp [PyData.eqv, PyData.eqvAll]
/-! ### the lots, in plain words -/
def free (lot : List Nat) (k : Nat) : Bool := lot.all fun i => !nearT i k
def extF (lot : List Nat) (k n : Nat) : List (List Nat) := ((List.range' k n).filter (free lot)).map fun k => lot ++ [k]
def beg (lot : List Nat) : Nat := match lot.getLast? with
  | some i => i + 1
  | none => 0
def ext (lot : List Nat) : List (List Nat) := extF lot (beg lot) (25 - beg lot)
def grow (lots : List (List Nat)) : List (List Nat) := lots.flatMap ext
/-! ### the loops -/
def testT : RE := (rCall 3 f__law_two_near (aCons (rC (.str "abcde")) (aCons (rBin ixD (rVar 0) (rVar 7)) (aCons (rBin ixD (rVar 0) (rVar 6)) aNil))))
theorem comp5 {s1 s2 s3 s4 s5 : Sl} {k : Nat} (hk : k < 25) {L : Sto} : ∀ lot : List Nat, (∀ i ∈ lot, i < 25) → compD (gN 7) testT (rVar 7) [.dat (.list names5), s1, s2, s3, s4, s5, .dat (.int k), .no] (lot.map numD) L = .ok (.list ((lot.filter fun i => nearT i k).map numD)) L
  | [], _ => rfl
  | i :: lot, h => by
    have ih := comp5 (s1 := s1) (s2 := s2) (s3 := s3) (s4 := s4) (s5 := s5) hk (L := L) lot fun j hj => h j (List.mem_cons_of_mem _ hj)
    have hi := h i List.mem_cons_self
    have t : testT [.dat (.list names5), s1, s2, s3, s4, s5, .dat (.int k), .dat (numD i)] L = .ok (.bool (nearT i k)) L :=
      e_call_same (a_cons (x := .str "abcde") rfl (a_cons (e_bin (x := .list names5) (y := .int i) rfl rfl (name5 hi)) (a_cons (e_bin (x := .list names5) (y := .int k) rfl rfl (name5 hk)) a_nil))) rfl (two5 hi hk L)
    rw [List.map_cons]
    cases b : nearT i k with
    | true =>
      rw [b] at t
      rw [List.filter_cons_of_pos (p := fun i => nearT i k) b, List.map_cons]
      exact cd_cons rfl t rfl ih
    | false =>
      rw [b] at t
      rw [List.filter_cons_of_neg (p := fun i => nearT i k) (by rw [b]; exact Bool.false_ne_true)]
      exact cd_skip rfl t ih
theorem free_is (lot : List Nat) (k : Nat) : decide ((((lot.filter fun i => nearT i k).length : Nat) : Int) = 0) = free lot k := by
  unfold free
  cases h : lot.all fun i => !nearT i k with
  | true =>
    have e : (lot.filter fun i => nearT i k) = [] := by
      rw [List.filter_eq_nil_iff]
      intro i hi
      have := List.all_eq_true.mp h i hi
      simpa using this
    rw [e]
    rfl
  | false =>
    obtain ⟨i, hi, hn⟩ := List.all_eq_false.mp h
    have m : i ∈ lot.filter fun i => nearT i k := List.mem_filter.mpr ⟨hi, by simpa using hn⟩
    have := List.length_pos_of_mem m
    exact decide_eq_false (by omega)
def bodyK : RS := (rIf (rBin eqD (rCl lenD (aCons (rComp (iTpl (rVar 4)) (gN 7) [7] testT (rVar 7)) aNil)) (rC (.int 0)))
  (rApp 3 (rBin addD (rVar 4) (rTup (aCons (rVar 6) aNil))))
  rNext)
theorem at_end {α : Type} (Lp : List α) (x : α) : (Lp ++ [x])[Lp.length]? = some x := by
  rw [List.getElem?_append_right (Nat.le_refl _), Nat.sub_self]
  rfl
theorem set_end {α : Type} (Lp : List α) (x y : α) : (Lp ++ [x]).set Lp.length y = Lp ++ [y] := by
  rw [List.set_append_right _ _ (Nat.le_refl _), Nat.sub_self]
  rfl
theorem lot_app (lot : List Nat) (k : Nat) (h : lot.length ≤ 1000) : addD (lotD lot) (.tuple [.int k]) = some (lotD (lot ++ [k])) := by
  show (if (lot.map numD).length + 1 ≤ 1000000 then some (PyData.tuple (lot.map numD ++ [.int k])) else none) = _
  rw [List.length_map, if_pos (by omega)]
  unfold lotD
  rw [List.map_append]
  rfl
theorem loopK {s1 s2 s5 s7 : Sl} {Lp : Sto} {lot : List Nat} (hl : ∀ i ∈ lot, i < 25) (h10 : lot.length ≤ 1000) : ∀ (n k : Nat) (es : List D) (t : Sl), k + n = 25 → es.length + n ≤ 1000000 →
    ∃ t', loopD (gN 6) bodyK (rangeD k n) [.dat (.list names5), s1, s2, .own Lp.length, .dat (lotD lot), s5, t, s7] (Lp ++ [some es]) = .next [.dat (.list names5), s1, s2, .own Lp.length, .dat (lotD lot), s5, t', s7] (Lp ++ [some (es ++ (extF lot k n).map lotD)])
  | 0, k, es, t, _, _ => ⟨t, by
      show Flw.next _ _ = _
      unfold extF
      simp⟩
  | n + 1, k, es, t, h, hb => by
    have hk : k < 25 := by omega
    have ce : rComp (iTpl (rVar 4)) (gN 7) [7] testT (rVar 7) [.dat (.list names5), s1, s2, .own Lp.length, .dat (lotD lot), s5, .dat (.int k), s7] (Lp ++ [some es]) = .ok (.list ((lot.filter fun i => nearT i k).map numD)) (Lp ++ [some es]) := by
      unfold rComp
      show (if (lot.map numD).length ≤ 1000000 then compD (gN 7) testT (rVar 7) [.dat (.list names5), s1, s2, .own Lp.length, .dat (lotD lot), s5, .dat (.int k), .no] (lot.map numD) (Lp ++ [some es]) else .stuck) = _
      rw [List.length_map, if_pos (by omega)]
      exact comp5 hk lot hl
    have ln : lenD [.list ((lot.filter fun i => nearT i k).map numD)] = some (.int ((lot.filter fun i => nearT i k).length : Nat)) := by
      show some (PyData.int (((lot.filter fun i => nearT i k).map numD).length : Nat)) = _
      rw [List.length_map]
    have tq := e_bin (rb := rC (.int 0)) (e_cl1 ce ln) rfl (eq_int _ 0)
    rw [free_is] at tq
    rw [range_cons, show ((k : Int) + 1) = ((k + 1 : Nat) : Int) by omega]
    have er : List.range' k (n + 1) = k :: List.range' (k + 1) n := by rw [List.range'_succ]
    cases b : free lot k with
    | true =>
      rw [b] at tq
      obtain ⟨t', e⟩ := loopK (s1 := s1) (s2 := s2) (s5 := s5) (s7 := s7) (Lp := Lp) hl h10 n (k + 1) (es ++ [lotD (lot ++ [k])]) (.dat (.int k)) (by omega) (by rw [List.length_append, List.length_singleton]; omega)
      refine ⟨t', lp_next rfl (if_t tq (s_app (k := Lp.length) (es := es) (ds := es) (L1 := Lp ++ [some es]) (d := lotD (lot ++ [k])) rfl (at_end _ _) (e_bin (x := lotD lot) (y := .tuple [.int k]) rfl rfl (lot_app lot k h10)) (at_end _ _) (by omega))) ?_⟩
      rw [set_end]
      refine Eq.trans e ?_
      unfold extF
      rw [er, List.filter_cons_of_pos b, List.map_cons, List.map_cons, List.append_assoc]
      rfl
    | false =>
      rw [b] at tq
      obtain ⟨t', e⟩ := loopK (s1 := s1) (s2 := s2) (s5 := s5) (s7 := s7) (Lp := Lp) hl h10 n (k + 1) es (.dat (.int k)) (by omega) (by omega)
      refine ⟨t', lp_next rfl (if_f tq rfl) ?_⟩
      refine Eq.trans e ?_
      unfold extF
      rw [er, List.filter_cons_of_neg (by rw [b]; exact Bool.false_ne_true)]
def bodyL : RS := (rSeq (rSet 5 (rC (.int 0)))
  (rSeq (rIf (rBin neD (rVar 4) (rTup aNil))
  (rSet 5 (rBin addD (rBin ixD (rVar 4) (rUn negD (rC (.int 1)))) (rC (.int 1))))
  rNext)
  (rFor (iRg2 (aCons (rVar 5) (aCons (rCl lenD (aCons (rVar 0) aNil)) aNil))) (gN 6)
  bodyK)))
theorem turnL {s1 s2 s5 s6 s7 : Sl} {Lp : Sto} {lot : List Nat} (hl : ∀ i ∈ lot, i < 25) (h10 : lot.length ≤ 1000) {es : List D} (hb : es.length + 25 ≤ 1000000) :
    ∃ s5' s6', bodyL [.dat (.list names5), s1, s2, .own Lp.length, .dat (lotD lot), s5, s6, s7] (Lp ++ [some es]) = .next [.dat (.list names5), s1, s2, .own Lp.length, .dat (lotD lot), s5', s6', s7] (Lp ++ [some (es ++ (ext lot).map lotD)]) := by
  have bl : beg lot ≤ 25 := by
    unfold beg
    cases hg : lot.getLast? with
    | none => exact Nat.zero_le _
    | some i => exact hl i (List.mem_of_getLast? hg)
  have tq : rBin neD (rVar 4) (rTup aNil) [.dat (.list names5), s1, s2, .own Lp.length, .dat (lotD lot), .dat (.int 0), s6, s7] (Lp ++ [some es]) = .ok (.bool (!lot.isEmpty)) (Lp ++ [some es]) := e_bin (x := lotD lot) (y := .tuple []) rfl rfl (no_lot lot)
  have l25 : lenD [.list names5] = some (.int 25) := rfl
  obtain ⟨t', eK⟩ := loopK (s1 := s1) (s2 := s2) (s5 := .dat (.int (beg lot))) (s7 := s7) (Lp := Lp) hl h10 (25 - beg lot) (beg lot) es s6 (by omega) (by omega)
  have rest : (rFor (iRg2 (aCons (rVar 5) (aCons (rCl lenD (aCons (rVar 0) aNil)) aNil))) (gN 6) bodyK) [.dat (.list names5), s1, s2, .own Lp.length, .dat (lotD lot), .dat (.int (beg lot)), s6, s7] (Lp ++ [some es]) = .next [.dat (.list names5), s1, s2, .own Lp.length, .dat (lotD lot), .dat (.int (beg lot)), t', s7] (Lp ++ [some (es ++ (ext lot).map lotD)]) := by
    refine fr (ds := rangeD (beg lot) (25 - beg lot)) (L' := Lp ++ [some es]) ?_ eK
    have z := rg2_is (ra := rVar 5) (rb := rCl lenD (aCons (rVar 0) aNil)) (ρ := [.dat (.list names5), s1, s2, .own Lp.length, .dat (lotD lot), .dat (.int (beg lot)), s6, s7]) (L := Lp ++ [some es]) (L1 := Lp ++ [some es]) (L2 := Lp ++ [some es]) (i := (beg lot : Int)) (j := 25) rfl (e_cl1 (x := .list names5) rfl l25) (small_is (by omega) (by omega)) (small_is (by decide) (by decide))
    rw [show ((25 : Int) - (beg lot : Int)).toNat = 25 - beg lot by omega] at z
    exact z
  refine ⟨.dat (.int (beg lot)), t', ?_⟩
  refine sq (ρ' := [.dat (.list names5), s1, s2, .own Lp.length, .dat (lotD lot), .dat (.int 0), s6, s7]) (L' := Lp ++ [some es]) rfl ?_
  rcases List.eq_nil_or_concat lot with e | ⟨l0, i, e⟩
  · subst e
    refine sq (if_f tq rfl) rest
  · have e : lot = l0 ++ [i] := by rw [e]; simp
    have ne : lot.isEmpty = false := by rw [e]; simp
    rw [ne] at tq
    have ix : ixD (lotD lot) (.int (-1)) = some (.int i) := by
      rw [e]
      show L2.atI ((l0 ++ [i]).map numD) (-1) = _
      rw [List.map_append]
      exact L2.atI_last _ _
    have bi : beg lot = i + 1 := by
      unfold beg
      rw [e]
      simp
    have ei : ((i : Int) + 1) = ((beg lot : Nat) : Int) := by rw [bi]; omega
    exact sq (if_t tq (s_set (z := .int (beg lot : Nat)) (e_bin (e_bin (x := lotD lot) (y := .int (-1)) rfl (e_un rfl rfl) ix) rfl (by rw [← ei]; rfl)))) rest
theorem loopL {s1 s2 s7 : Sl} {Lp : Sto} : ∀ (lots : List (List Nat)) (es : List D) (s4 s5 s6 : Sl), (∀ lot ∈ lots, (∀ i ∈ lot, i < 25) ∧ lot.length ≤ 1000) → (∀ lot : List Nat, (ext lot).length ≤ 25) → es.length + 25 * lots.length ≤ 1000000 →
    ∃ s4' s5' s6', loopD (gN 4) bodyL (lots.map lotD) [.dat (.list names5), s1, s2, .own Lp.length, s4, s5, s6, s7] (Lp ++ [some es]) = .next [.dat (.list names5), s1, s2, .own Lp.length, s4', s5', s6', s7] (Lp ++ [some (es ++ (grow lots).map lotD)])
  | [], es, s4, s5, s6, _, _, _ => ⟨s4, s5, s6, by
      show Flw.next _ _ = _
      simp [grow]⟩
  | lot :: lots, es, s4, s5, s6, h, hx, hb => by
    rw [List.length_cons] at hb
    obtain ⟨h1, h2⟩ := h lot List.mem_cons_self
    obtain ⟨a5, a6, e1⟩ := turnL (s1 := s1) (s2 := s2) (s5 := s5) (s6 := s6) (s7 := s7) (Lp := Lp) h1 h2 (es := es) (by omega)
    have le := hx lot
    obtain ⟨b4, b5, b6, e2⟩ := loopL (s1 := s1) (s2 := s2) (s7 := s7) (Lp := Lp) lots (es ++ (ext lot).map lotD) (.dat (lotD lot)) a5 a6 (fun l hl => h l (List.mem_cons_of_mem _ hl)) hx (by rw [List.length_append, List.length_map]; omega)
    refine ⟨b4, b5, b6, ?_⟩
    rw [List.map_cons]
    refine lp_next rfl e1 ?_
    refine Eq.trans e2 ?_
    unfold grow
    rw [List.flatMap_cons, List.map_append, List.append_assoc]
theorem ext_len (lot : List Nat) : (ext lot).length ≤ 25 := by
  unfold ext extF
  rw [List.length_map]
  refine Nat.le_trans (List.length_filter_le _ _) ?_
  rw [List.length_range']
  omega
/-! ### the stages -/
def bodyT : RS := (rSeq (rOwn 3 aNil)
  (rSeq (rFor (iLst (rVar 1)) (gN 4) bodyL)
  (rSeq (rIf (rLook (rBin eqD (rVar 3) (rLst aNil)))
  (rRet (rBin eqD (rVar 2) (rCall 1 f_ring_most (aCons (rC (.int 5)) aNil))))
  rNext)
  (rFrz 3 (rSet 1 (rVar 3))))))
def smallLots (lots : List (List Nat)) : Bool := decide (lots.length ≤ 1000) && lots.all fun lot => (lot.all fun i => decide (i < 25)) && decide (lot.length ≤ 1000)
theorem small_lots {lots : List (List Nat)} (h : smallLots lots = true) : lots.length ≤ 1000 ∧ ∀ lot ∈ lots, (∀ i ∈ lot, i < 25) ∧ lot.length ≤ 1000 := by
  unfold smallLots at h
  rw [Bool.and_eq_true] at h
  refine ⟨of_decide_eq_true h.1, fun lot hl => ?_⟩
  have z := List.all_eq_true.mp h.2 lot hl
  rw [Bool.and_eq_true] at z
  exact ⟨fun i hi => of_decide_eq_true (List.all_eq_true.mp z.1 i hi), of_decide_eq_true z.2⟩
theorem look_own {Lp : Sto} {xs : List D} {s0 s1 s2 s4 s5 s6 s7 : Sl} {lots : List (List Nat)} (hx : xs = lots.map lotD) : rLook (rBin eqD (rVar 3) (rLst aNil)) [s0, s1, s2, .own Lp.length, s4, s5, s6, s7] (Lp ++ [some xs]) = .ok (.bool lots.isEmpty) (Lp ++ [some xs]) := by
  have th : thaw (Lp ++ [some xs]) (.own Lp.length) = .dat (.list xs) := by
    show (match (Lp ++ [some xs])[Lp.length]? with | some (some ds) => Sl.dat (.list ds) | _ => .no) = _
    rw [at_end]
  refine e_look (L1 := []) ?_ rfl
  rw [List.map_cons, List.map_cons, List.map_cons, List.map_cons, th]
  refine e_bin (x := .list xs) (y := .list []) rfl rfl ?_
  rw [hx]
  exact no_lots lots
theorem stage {Lp : Sto} {lots : List (List Nat)} (sm : smallLots lots = true) (ne : (grow lots).isEmpty = false) {s2 s3 s4 s5 s6 : Sl} :
    ∃ s3' s4' s5' s6', bodyT [.dat (.list names5), .dat (.list (lots.map lotD)), s2, s3, s4, s5, s6, .no] Lp = .next [.dat (.list names5), .dat (.list ((grow lots).map lotD)), s2, s3', s4', s5', s6', .no] (Lp ++ [none]) := by
  obtain ⟨h1, h2⟩ := small_lots sm
  obtain ⟨a4, a5, a6, e⟩ := loopL (s1 := .dat (.list (lots.map lotD))) (s2 := s2) (s7 := .no) (Lp := Lp) lots [] s4 s5 s6 h2 ext_len (by rw [List.length_nil]; omega)
  rw [List.nil_append] at e
  refine ⟨.dat (.list ((grow lots).map lotD)), a4, a5, a6, ?_⟩
  refine sq (ρ' := [.dat (.list names5), .dat (.list (lots.map lotD)), s2, .own Lp.length, s4, s5, s6, .no]) (L' := Lp ++ [some []]) rfl ?_
  refine sq (fr (ds := lots.map lotD) (L' := Lp ++ [some []]) rfl e) ?_
  have lk := look_own (Lp := Lp) (s0 := .dat (.list names5)) (s1 := .dat (.list (lots.map lotD))) (s2 := s2) (s4 := a4) (s5 := a5) (s6 := a6) (s7 := .no) (lots := grow lots) rfl
  rw [ne] at lk
  refine sq (if_f lk rfl) ?_
  unfold rFrz
  have fz : frz 3 [.dat (.list names5), .dat (.list (lots.map lotD)), s2, .own Lp.length, a4, a5, a6, .no] (Lp ++ [some ((grow lots).map lotD)]) = some ([.dat (.list names5), .dat (.list (lots.map lotD)), s2, .dat (.list ((grow lots).map lotD)), a4, a5, a6, .no], Lp ++ [none]) := by
    show (match (Lp ++ [some ((grow lots).map lotD)])[Lp.length]? with | some (some ds) => some (_, (Lp ++ [some ((grow lots).map lotD)]).set Lp.length none) | _ => none) = _
    rw [at_end, set_end]
    rfl
  rw [fz]
  rfl
theorem stage_end {Lp : Sto} {lots : List (List Nat)} (sm : smallLots lots = true) (em : (grow lots).isEmpty = true) {s3 s4 s5 s6 : Sl} :
    ∃ L', bodyT [.dat (.list names5), .dat (.list (lots.map lotD)), .dat (.int 5), s3, s4, s5, s6, .no] Lp = .ret (.bool true) (Lp ++ L') := by
  obtain ⟨h1, h2⟩ := small_lots sm
  obtain ⟨a4, a5, a6, e⟩ := loopL (s1 := .dat (.list (lots.map lotD))) (s2 := .dat (.int 5)) (s7 := .no) (Lp := Lp) lots [] s4 s5 s6 h2 ext_len (by rw [List.length_nil]; omega)
  rw [List.nil_append] at e
  refine ⟨[some ((grow lots).map lotD)], ?_⟩
  refine sq (ρ' := [.dat (.list names5), .dat (.list (lots.map lotD)), .dat (.int 5), .own Lp.length, s4, s5, s6, .no]) (L' := Lp ++ [some []]) rfl ?_
  refine sq (fr (ds := lots.map lotD) (L' := Lp ++ [some []]) rfl e) ?_
  have lk := look_own (Lp := Lp) (s0 := .dat (.list names5)) (s1 := .dat (.list (lots.map lotD))) (s2 := .dat (.int 5)) (s4 := a4) (s5 := a5) (s6 := a6) (s7 := .no) (lots := grow lots) rfl
  rw [em] at lk
  have b5 : Bd 400 (5 : Int) := by
    have : Bd 4 (5 : Int) := by unfold Bd; decide
    exact this.mono (by decide)
  exact sq_ret (if_t lk (s_ret (e_bin (x := .int 5) rfl (e_call_same (a_cons (x := .int 5) rfl a_nil) rfl (most_is (by decide) b5)) (by rw [eq_int]; rfl))))
def lots0 : List (List Nat) := [[]]
def lots1 : List (List Nat) := grow lots0
def lots2 : List (List Nat) := grow lots1
def lots3 : List (List Nat) := grow lots2
def lots4 : List (List Nat) := grow lots3
def lots5 : List (List Nat) := grow lots4
theorem chk_lots : (smallLots lots0 && smallLots lots1 && smallLots lots2 && smallLots lots3 && smallLots lots4 && smallLots lots5 && !lots1.isEmpty && !lots2.isEmpty && !lots3.isEmpty && !lots4.isEmpty && !lots5.isEmpty && (grow lots5).isEmpty) = true := by decide +kernel
theorem trying_is (x : Option (List D)) : ∃ L', f__law_trying [] [x] = .ok (.bool true) L' ∧ L'.take 1 = [x] := by
  have ck := chk_lots
  simp only [Bool.and_eq_true, Bool.not_eq_true'] at ck
  obtain ⟨⟨⟨⟨⟨⟨⟨⟨⟨⟨⟨m0, m1⟩, m2⟩, m3⟩, m4⟩, m5⟩, n1⟩, n2⟩, n3⟩, n4⟩, n5⟩, n6⟩ := ck
  have b0 : f__law_trying = rBody 8 (rSeq (rSet 0 (rCall 1 f__law_pairs (aCons (rC (.str "abcde")) aNil))) (rSeq (rSet 1 (rLst (aCons (rTup aNil) aNil))) (rSeq (rFor (iRg1 (aCons (rC (.int 6)) aNil)) (gN 2) bodyT) (rRet (rC (.bool false)))))) := rfl
  obtain ⟨a3, a4, a5, a6, e0⟩ := stage (Lp := [x]) m0 n1 (s2 := .dat (.int 0)) (s3 := .no) (s4 := .no) (s5 := .no) (s6 := .no)
  obtain ⟨b3, b4, b5, b6, e1⟩ := stage (Lp := [x] ++ [none]) m1 n2 (s2 := .dat (.int (0 + 1))) (s3 := a3) (s4 := a4) (s5 := a5) (s6 := a6)
  obtain ⟨c3, c4, c5, c6, e2⟩ := stage (Lp := [x] ++ [none] ++ [none]) m2 n3 (s2 := .dat (.int (0 + 1 + 1))) (s3 := b3) (s4 := b4) (s5 := b5) (s6 := b6)
  obtain ⟨d3, d4, d5, d6, e3⟩ := stage (Lp := [x] ++ [none] ++ [none] ++ [none]) m3 n4 (s2 := .dat (.int (0 + 1 + 1 + 1))) (s3 := c3) (s4 := c4) (s5 := c5) (s6 := c6)
  obtain ⟨f3, f4, f5, f6, e4⟩ := stage (Lp := [x] ++ [none] ++ [none] ++ [none] ++ [none]) m4 n5 (s2 := .dat (.int (0 + 1 + 1 + 1 + 1))) (s3 := d3) (s4 := d4) (s5 := d5) (s6 := d6)
  obtain ⟨L', e5⟩ := stage_end (Lp := [x] ++ [none] ++ [none] ++ [none] ++ [none] ++ [none]) m5 n6 (s3 := f3) (s4 := f4) (s5 := f5) (s6 := f6)
  refine ⟨[x] ++ [none] ++ [none] ++ [none] ++ [none] ++ [none] ++ L', ?_, rfl⟩
  rw [b0]
  refine bd_ret (sq (ρ' := [.dat (.list names5), .no, .no, .no, .no, .no, .no, .no]) (L' := [x]) (s_set (e_call_same (a_cons (x := .str "abcde") rfl a_nil) rfl (pairs5 [x]))) ?_)
  refine sq (ρ' := [.dat (.list names5), .dat (.list (lots0.map lotD)), .no, .no, .no, .no, .no, .no]) (L' := [x]) rfl ?_
  refine sq_ret (fr (ds := rangeD 0 6) (L' := [x]) (rg1_is (j := 6) rfl (small_is (by decide) (by decide))) ?_)
  rw [range_cons, range_cons, range_cons, range_cons, range_cons, range_cons]
  refine lp_next rfl e0 (lp_next rfl e1 (lp_next rfl e2 (lp_next rfl e3 (lp_next rfl e4 ?_))))
  exact lp_ret rfl e5
end Sh
set_option maxRecDepth 100000
set_option maxHeartbeats 4000000
/-! Q6: the plain law of the rings. -/
namespace Sh
open PySem
def okT : Res → Bool
  | .ok (.bool true) _ => true
  | _ => false
theorem refused_t (x : Option (List D)) : okT (f__law_refused [] [x]) = true := by kernel_rfl
theorem refused_is (x : Option (List D)) : ∃ L', f__law_refused [] [x] = .ok (.bool true) L' := by
  have h := refused_t x
  cases e : f__law_refused [] [x] with
  | stuck => rw [e] at h; cases h
  | exc _ _ _ => rw [e] at h; cases h
  | ok d L' =>
    rw [e] at h
    cases d with
    | bool b =>
      cases b with
      | true => exact ⟨L', rfl⟩
      | false => cases h
    | none => cases h
    | int _ => cases h
    | str _ => cases h
    | list _ => cases h
    | tuple _ => cases h
    | dict _ => cases h
theorem i_tpl {re : RE} {ρ : En} {L L1 : Sto} {ds : List D} (h : re ρ L = .ok (.tuple ds) L1) : iTpl re ρ L = .ok ds L1 := by
  unfold iTpl
  rw [h]
  rfl
theorem pow10 (k : Nat) (hk : k ≤ 100) : powD (.int 10) (.int k) = some (.int (10 ^ k)) := by
  show (if (0 : Int) ≤ k ∧ (k : Int) ≤ 1000000 ∧ (10 : Int).natAbs < 2 ^ 64 then some (PyData.int ((10 : Int) ^ (k : Int).toNat)) else none) = _
  rw [if_pos ⟨by omega, by omega, by decide⟩, Int.toNat_natCast]
theorem plain_law : ∀ ns : List Int, ns.length ≤ 63 → ∃ L, f_law [.dat (.list (ns.map PyData.int))] [] = .ok (.bool true) L := by
  intro ns _
  obtain ⟨figs, hf, hl, pu⟩ := purse_is ns
  have p0 := pk_bd (at_ := 0) (figs := figs) (many := 10) (by decide)
  have p1 := pk_bd (at_ := 1) (figs := figs) (many := 10) (by decide)
  obtain ⟨f, f3, f12, ef⟩ := first_at p0.1 p0.2
  obtain ⟨q, q3, q12, eq⟩ : ∃ q : Nat, 3 ≤ q ∧ q ≤ 12 ∧ (3 + pk 1 figs 10) = (q : Int) := ⟨(3 + pk 1 figs 10).toNat, by omega, by omega, by omega⟩
  obtain ⟨t1, eF1⟩ := turnF (s0 := .dat (.list (ns.map PyData.int))) (s2 := .dat (.int f)) (s4 := .no) (s5 := .no) (at_ := 2) (figs := figs) f3 f12
  obtain ⟨t2, eF2⟩ := turnF (s0 := .dat (.list (ns.map PyData.int))) (s2 := .dat (.int f)) (s4 := .no) (s5 := t1) (at_ := 4) (figs := figs) q3 q12
  obtain ⟨t3, eH⟩ := loopH (s0 := .dat (.list (ns.map PyData.int))) (s2 := .dat (.int f)) (s4 := .no) (s5 := t2) (L := PL 6 figs) 11 3 (.dat (.int q)) (by decide) (by decide)
  obtain ⟨g, g0, gb, eg⟩ := great_call (at_ := 6) (figs := figs) (n := 14) (by decide) (ρ := [.dat (.list (ns.map PyData.int)), .own 0, .dat (.int f), t3, .no, t2]) rfl
  obtain ⟨g2, h0, hb, eg2⟩ := great_call (at_ := 20) (figs := figs) (n := 12) (by decide) (ρ := [.dat (.list (ns.map PyData.int)), .own 0, .dat (.int f), t3, .dat (.int (3 + g)), t2]) rfl
  have pa := pk_bd (at_ := 32) (figs := figs) (many := 24) (by decide)
  have pb := pk_bd (at_ := 33) (figs := figs) (many := 24) (by decide)
  have bG : Bd 101 (3 + g) := by
    have b3 : Bd 100 (3 : Int) := (show Bd 2 (3 : Int) by unfold Bd; decide).mono (by decide)
    exact b3.add gb
  have bpb : Bd 10 (pk 33 figs 24) := by
    unfold Bd
    have : (pk 33 figs 24).natAbs ≤ 24 := by omega
    exact Nat.lt_of_le_of_lt this (by decide)
  have m12 := mul_ok (show Bd 10 (12 : Int) by unfold Bd; decide) bpb (by decide)
  have mGG := mul_ok bG bG (by decide)
  have bGG : Bd 400 ((3 + g) * (3 + g) + 1) := ((bG.mul bG).add ((show Bd 1 (1 : Int) from Bd.one).mono (by decide))).mono (by decide)
  have gg0 : 0 ≤ (3 + g) * (3 + g) := Int.mul_nonneg (by omega) (by omega)
  have gg9 : 3 * 3 ≤ (3 + g) * (3 + g) := Int.mul_le_mul (by omega) (by omega) (by decide) (by omega)
  have b60 : Bd 200 ((10 : Int) ^ 60) := by unfold Bd; decide
  have b50 : Bd 400 ((10 : Int) ^ 50) := (show Bd 200 ((10 : Int) ^ 50) by unfold Bd; decide).mono (by decide)
  have bT : Bd 400 ((10 : Int) ^ 60 + (3 + g)) := (b60.add (bG.mono (by decide))).mono (by decide)
  have z60 : (0 : Int) ≤ (10 : Int) ^ 60 := by decide
  have z50 : (0 : Int) ≤ (10 : Int) ^ 50 := by decide
  obtain ⟨Lt, et, tt⟩ := trying_is (some [.int ((35 : Nat) : Int), .list (figs.map PyData.int)])
  obtain ⟨Lr, er⟩ := refused_is (some [.int ((35 : Nat) : Int), .list (figs.map PyData.int)])
  refine ⟨Lr.take 1, ?_⟩
  unfold f_law b_law
  refine bd_ret (sq (ρ' := [.dat (.list (ns.map PyData.int)), .own 0, .no, .no, .no, .no]) (L' := PL 0 figs) ?_ ?_)
  · unfold rOwnCall
    show bindSA ((aCons (rVar 0) aNil) [.dat (.list (ns.map PyData.int)), .no, .no, .no, .no, .no] []) _ _ = _
    rw [a_cons (x := .list (ns.map PyData.int)) rfl a_nil]
    show (match f__law_purse [.dat (.list (ns.map PyData.int))] [] with
      | .ok items L2 => (match allDat items with
        | some ds => if ds.length ≤ 1000 then Flw.next _ (L2.take 0 ++ [some ds]) else .stuck
        | none => .stuck)
      | _ => .stuck) = _
    rw [pu]
    rfl
  refine sq (ρ' := [.dat (.list (ns.map PyData.int)), .own 0, .dat (.int f), .no, .no, .no]) (L' := PL 1 figs) (s_set (e_bin (x := .tuple [.int 5, .int 3, .int 4, .int 6, .int 7, .int 8, .int 9, .int 10, .int 11, .int 12]) rfl (pick_call (by decide) rfl rfl) ef)) ?_
  have eT : rTup (aCons (rVar 2) (aCons (rBin addD (rC (.int 3)) (rCall 2 f__law_pick (aOwn 1 (aCons (rC (.int 10)) aNil)))) aNil)) [.dat (.list (ns.map PyData.int)), .own 0, .dat (.int f), .no, .no, .no] (PL 1 figs) = .ok (.tuple [.int f, .int q]) (PL 2 figs) :=
    e_tup (a_cons (x := .int f) rfl (a_cons (x := .int q) (e_bin (x := .int 3) rfl (pick_call (by decide) rfl rfl) (by rw [← eq]; rfl)) a_nil)) rfl two_le
  refine sq (fr (i_tpl eT) (lp_next rfl eF1 (lp_next rfl eF2 lp_nil))) ?_
  refine sq (fr (ds := rangeD (3 : Nat) 11) (L' := PL 6 figs) (rg2_is (i := 3) (j := 14) rfl rfl (small_is (by decide) (by decide)) (small_is (by decide) (by decide))) eH) ?_
  refine sq (ρ' := [.dat (.list (ns.map PyData.int)), .own 0, .dat (.int f), t3, .dat (.int (3 + g)), t2]) (L' := PL 20 figs) (s_set (e_bin (x := .int 3) rfl eg rfl)) ?_
  refine sq (if_f (L' := PL 34 figs) (e_not (e_call_same (a_cons (x := .int (3 + g)) rfl (a_cons eg2 (a_cons (e_bin (pick_call (at_ := 32) (by decide) rfl rfl) (e_bin (x := .int 12) rfl (pick_call (at_ := 33) (by decide) rfl rfl) m12) rfl) a_nil))) rfl (numbers_is (by omega) (bG.mono (by decide)) h0 (hb.mono (by decide)) (by omega) (by omega)))) rfl) ?_
  refine sq (if_f (L' := PL 34 figs) (e_or_f (e_not (b := true) (e_call_same (a_cons (x := .int ((3 + g) * (3 + g) + 1)) (e_bin (e_bin (x := .int (3 + g)) rfl rfl mGG) rfl rfl) (a_cons (x := .int (3 + g)) rfl (a_cons rfl a_nil))) rfl (numbers_is (by omega) bGG (by omega) (bG.mono (by decide)) (by decide) (by decide))))
    (e_not (b := true) (e_call_same (a_cons (x := .int ((10 : Int) ^ 60 + (3 + g))) (e_bin (e_bin (x := .int 10) (y := .int ((60 : Nat) : Int)) rfl rfl (pow10 60 (by decide))) rfl rfl) (a_cons (e_bin (x := .int 10) (y := .int ((50 : Nat) : Int)) rfl rfl (pow10 50 (by decide))) (a_cons rfl a_nil))) rfl (numbers_is (by omega) bT z50 b50 (by decide) (by decide))))) rfl) ?_
  have tq : rBin eqD (rCall 2 f__law_pick (aOwn 1 (aCons (rC (.int 4)) aNil))) (rC (.int 1)) [.dat (.list (ns.map PyData.int)), .own 0, .dat (.int f), t3, .dat (.int (3 + g)), t2] (PL 34 figs) = .ok (.bool (decide (pk 34 figs 4 = 1))) (PL 35 figs) := e_bin (pick_call (by decide) rfl rfl) rfl (eq_int _ _)
  have eTr : rCall 0 f__law_trying aNil [.dat (.list (ns.map PyData.int)), .own 0, .dat (.int f), t3, .dat (.int (3 + g)), t2] (PL 35 figs) = .ok (.bool true) (PL 35 figs) := by
    have z := e_call (n := 0) (as := aNil) (ρ := [.dat (.list (ns.map PyData.int)), .own 0, .dat (.int f), t3, .dat (.int (3 + g)), t2]) (L := PL 35 figs) a_nil rfl et
    rw [show (PL 35 figs).length = 1 from rfl, tt] at z
    exact z
  have c8 : rAnd (rBin eqD (rCall 2 f__law_pick (aOwn 1 (aCons (rC (.int 4)) aNil))) (rC (.int 1))) (rNot (rCall 0 f__law_trying aNil)) [.dat (.list (ns.map PyData.int)), .own 0, .dat (.int f), t3, .dat (.int (3 + g)), t2] (PL 34 figs) = .ok (.bool false) (PL 35 figs) := by
    by_cases h : pk 34 figs 4 = 1
    · rw [decide_eq_true h] at tq
      exact e_and_t tq (e_not (b := true) eTr)
    · rw [decide_eq_false h] at tq
      exact e_and_f tq
  refine sq (if_f c8 rfl) (s_ret ?_)
  exact e_call (n := 0) (as := aNil) (L := PL 35 figs) a_nil rfl er
end Sh
set_option maxRecDepth 100000
set_option maxHeartbeats 4000000
namespace Sh
open PySem L2 PyProof.Rows
/-- the maker of a class of the text -/
def iniOf : Stmt → Stmt
  | .ClassDef _ _ _ (st :: _) .. => st
  | st => st
abbrev ini_1 : Stmt := iniOf (topS 2)
theorem isc_1 : FnScope ["self", "at"] ["self", "at"] (defScope ini_1) := ⟨rfl, rfl, rfl, by decide +kernel, rfl, by decide +kernel, by decide +kernel⟩
abbrev ini_2 : Stmt := iniOf (topS 3)
theorem isc_2 : FnScope ["self", "at"] ["self", "at"] (defScope ini_2) := ⟨rfl, rfl, rfl, by decide +kernel, rfl, by decide +kernel, by decide +kernel⟩
abbrev ini_3 : Stmt := iniOf (topS 4)
theorem isc_3 : FnScope ["self", "at"] ["self", "at"] (defScope ini_3) := ⟨rfl, rfl, rfl, by decide +kernel, rfl, by decide +kernel, by decide +kernel⟩
theorem exm_of {K : PySem.W.Frag} {C D : Addr} {b : Bool} (h1 : PySem.W.subIn K (.ref C) (.type "BaseException") = some true) (h2 : PySem.W.isClsIn K D = true) (h3 : PySem.W.typeIn K (.ref D) = some (.type "type")) (h4 : PySem.W.subIn K (.ref C) (.ref D) = some b) (hd : PySem.W.subIn K (.ref D) (.type "BaseException") = some true) : PySem.W.exmOne K (.ref C) (.ref D) = some b := by
  have q1 : (PySem.W.subIn K (.ref D) (.type "BaseException") == some true) = true := by rw [hd] <;> rfl
  have q2 : ((PySem.W.clsIn K D).isSome && PySem.W.typeIn K (.ref D) == some (.type "type")) = true := by
    rw [show (PySem.W.clsIn K D).isSome = true from h2, h3] <;> rfl
  show (if (PySem.W.subIn K (.ref D) (.type "BaseException") == some true) = true then (if ((PySem.W.clsIn K D).isSome && PySem.W.typeIn K (.ref D) == some (.type "type")) = true then PySem.W.subIn K (.ref C) (.ref D) else none) else none) = some b
  rw [if_pos q1, if_pos q2]
  exact h4
theorem all_defs {P : Program} {w : World} {K : PySem.W.Frag} {h : Heap} {mg : Str → Option Value} {fa : Addr} (X : K.In h) (G : h.Ns mainGlobals mg) (hfa : mg "law" = some (.ref fa))
    {t_SMALL : Tok}
    {t_FIGURES : Tok}
    {t_SIGNS : Tok}
    {t_MOST_SIGNS : Tok}
    {t_LEAST_RING : Tok}
    {C_0 : Addr}
    {C_1 I_1 N_1 : Addr} {nm_1 qn_1 : Str} {bs_1 : List Value} {sn_1 : List Str} {sub_1 : List Value} {ab_1 : Bool} {col_1 : Option Bool} {dd_1 : Option Addr} {m0_1 m1_1 m2_1 m3_1 m5_1 : Option Value}
    {oc_i1 kV_i1 dc_i1 pm_i1 cd_i1 ct_i1 : Value} {od_i1 an_i1 : Option Addr} {sl_i1 : Array (Option Value)}
    {C_2 I_2 N_2 : Addr} {nm_2 qn_2 : Str} {bs_2 : List Value} {sn_2 : List Str} {sub_2 : List Value} {ab_2 : Bool} {col_2 : Option Bool} {dd_2 : Option Addr} {m0_2 m1_2 m2_2 m3_2 m5_2 : Option Value}
    {oc_i2 kV_i2 dc_i2 pm_i2 cd_i2 ct_i2 : Value} {od_i2 an_i2 : Option Addr} {sl_i2 : Array (Option Value)}
    {C_3 I_3 N_3 : Addr} {nm_3 qn_3 : Str} {bs_3 : List Value} {sn_3 : List Str} {sub_3 : List Value} {ab_3 : Bool} {col_3 : Option Bool} {dd_3 : Option Addr} {m0_3 m1_3 m2_3 m3_3 m5_3 : Option Value}
    {oc_i3 kV_i3 dc_i3 pm_i3 cd_i3 ct_i3 : Value} {od_i3 an_i3 : Option Addr} {sl_i3 : Array (Option Value)}
    {f_0 : Addr} {od_0 an_0 : Option Addr} {sl_0 : Array (Option Value)} {oc_0 kV_0 dc_0 pm_0 cd_0 ct_0 : Value}
    {f_1 : Addr} {od_1 an_1 : Option Addr} {sl_1 : Array (Option Value)} {oc_1 kV_1 dc_1 pm_1 cd_1 ct_1 : Value}
    {f_2 : Addr} {od_2 an_2 : Option Addr} {sl_2 : Array (Option Value)} {oc_2 kV_2 dc_2 pm_2 cd_2 ct_2 : Value}
    {f_3 : Addr} {od_3 an_3 : Option Addr} {sl_3 : Array (Option Value)} {oc_3 kV_3 dc_3 pm_3 cd_3 ct_3 : Value}
    {f_4 : Addr} {od_4 an_4 : Option Addr} {sl_4 : Array (Option Value)} {oc_4 kV_4 dc_4 pm_4 cd_4 ct_4 : Value}
    {f_5 : Addr} {od_5 an_5 : Option Addr} {sl_5 : Array (Option Value)} {oc_5 kV_5 dc_5 pm_5 cd_5 ct_5 : Value}
    {f_6 : Addr} {od_6 an_6 : Option Addr} {sl_6 : Array (Option Value)} {oc_6 kV_6 dc_6 pm_6 cd_6 ct_6 : Value}
    {f_7 : Addr} {od_7 an_7 : Option Addr} {sl_7 : Array (Option Value)} {oc_7 kV_7 dc_7 pm_7 cd_7 ct_7 : Value}
    {f_8 : Addr} {od_8 an_8 : Option Addr} {sl_8 : Array (Option Value)} {oc_8 kV_8 dc_8 pm_8 cd_8 ct_8 : Value}
    {f_9 : Addr} {od_9 an_9 : Option Addr} {sl_9 : Array (Option Value)} {oc_9 kV_9 dc_9 pm_9 cd_9 ct_9 : Value}
    {f_10 : Addr} {od_10 an_10 : Option Addr} {sl_10 : Array (Option Value)} {oc_10 kV_10 dc_10 pm_10 cd_10 ct_10 : Value}
    {f_11 : Addr} {od_11 an_11 : Option Addr} {sl_11 : Array (Option Value)} {oc_11 kV_11 dc_11 pm_11 cd_11 ct_11 : Value}
    {f_12 : Addr} {od_12 an_12 : Option Addr} {sl_12 : Array (Option Value)} {oc_12 kV_12 dc_12 pm_12 cd_12 ct_12 : Value}
    {f_13 : Addr} {od_13 an_13 : Option Addr} {sl_13 : Array (Option Value)} {oc_13 kV_13 dc_13 pm_13 cd_13 ct_13 : Value}
    {f_14 : Addr} {od_14 an_14 : Option Addr} {sl_14 : Array (Option Value)} {oc_14 kV_14 dc_14 pm_14 cd_14 ct_14 : Value}
    {f_15 : Addr} {od_15 an_15 : Option Addr} {sl_15 : Array (Option Value)} {oc_15 kV_15 dc_15 pm_15 cd_15 ct_15 : Value}
    {f_16 : Addr} {od_16 an_16 : Option Addr} {sl_16 : Array (Option Value)} {oc_16 kV_16 dc_16 pm_16 cd_16 ct_16 : Value}
    {f_17 : Addr} {od_17 an_17 : Option Addr} {sl_17 : Array (Option Value)} {oc_17 kV_17 dc_17 pm_17 cd_17 ct_17 : Value}
    {f_18 : Addr} {od_18 an_18 : Option Addr} {sl_18 : Array (Option Value)} {oc_18 kV_18 dc_18 pm_18 cd_18 ct_18 : Value}
    {f_19 : Addr} {od_19 an_19 : Option Addr} {sl_19 : Array (Option Value)} {oc_19 kV_19 dc_19 pm_19 cd_19 ct_19 : Value}
    {f_20 : Addr} {od_20 an_20 : Option Addr} {sl_20 : Array (Option Value)} {oc_20 kV_20 dc_20 pm_20 cd_20 ct_20 : Value}
    {f_21 : Addr} {od_21 an_21 : Option Addr} {sl_21 : Array (Option Value)} {oc_21 kV_21 dc_21 pm_21 cd_21 ct_21 : Value}
    {f_22 : Addr} {od_22 an_22 : Option Addr} {sl_22 : Array (Option Value)} {oc_22 kV_22 dc_22 pm_22 cd_22 ct_22 : Value}
    {f_23 : Addr} {od_23 an_23 : Option Addr} {sl_23 : Array (Option Value)} {oc_23 kV_23 dc_23 pm_23 cd_23 ct_23 : Value}
    {f_24 : Addr} {od_24 an_24 : Option Addr} {sl_24 : Array (Option Value)} {oc_24 kV_24 dc_24 pm_24 cd_24 ct_24 : Value}
    {f_25 : Addr} {od_25 an_25 : Option Addr} {sl_25 : Array (Option Value)} {oc_25 kV_25 dc_25 pm_25 cd_25 ct_25 : Value}
    {f_26 : Addr} {od_26 an_26 : Option Addr} {sl_26 : Array (Option Value)} {oc_26 kV_26 dc_26 pm_26 cd_26 ct_26 : Value}
    {f_27 : Addr} {od_27 an_27 : Option Addr} {sl_27 : Array (Option Value)} {oc_27 kV_27 dc_27 pm_27 cd_27 ct_27 : Value}
    {f_28 : Addr} {od_28 an_28 : Option Addr} {sl_28 : Array (Option Value)} {oc_28 kV_28 dc_28 pm_28 cd_28 ct_28 : Value}
    (z_len : PySem.W.nsIn K mainGlobals "len" = some none)
    (z_min : PySem.W.nsIn K mainGlobals "min" = some none)
    (z_int : PySem.W.nsIn K mainGlobals "int" = some none)
    (z_bool : PySem.W.nsIn K mainGlobals "bool" = some none)
    (z_str : PySem.W.nsIn K mainGlobals "str" = some none)
    (z_tuple : PySem.W.nsIn K mainGlobals "tuple" = some none)
    (z_list : PySem.W.nsIn K mainGlobals "list" = some none)
    (z_sorted : PySem.W.nsIn K mainGlobals "sorted" = some none)
    (z_set : PySem.W.nsIn K mainGlobals "set" = some none)
    (z_range : PySem.W.nsIn K mainGlobals "range" = some none)
    (z_isinstance : PySem.W.nsIn K mainGlobals "isinstance" = some none)
    (z_repr : PySem.W.nsIn K mainGlobals "repr" = some none)
    (g_SMALL : PySem.W.nsIn K mainGlobals "SMALL" = some (some (.str "abcdefghijklmnopqrstuvwxyz" t_SMALL)))
    (g_FIGURES : PySem.W.nsIn K mainGlobals "FIGURES" = some (some (.str "0123456789" t_FIGURES)))
    (g_SIGNS : PySem.W.nsIn K mainGlobals "SIGNS" = some (some (.str "abcdefghijklmnopqrstuvwxyz0123456789._-!*@+" t_SIGNS)))
    (g_MOST_SIGNS : PySem.W.nsIn K mainGlobals "MOST_SIGNS" = some (some (.int 12 t_MOST_SIGNS)))
    (g_LEAST_RING : PySem.W.nsIn K mainGlobals "LEAST_RING" = some (some (.int 3 t_LEAST_RING)))
    (xa_0 : PySem.W.nsIn K mainGlobals "DisguiseError" = some (some (.ref C_0)))
    (xi_0 : PySem.W.isClsIn K C_0 = true)
    (xt_0 : PySem.W.typeIn K (.ref C_0) = some (.type "type"))
    (xa_1 : PySem.W.nsIn K mainGlobals "BadLetters" = some (some (.ref C_1)))
    (xl_1 : K.lookup C_1 = some (excClassObj nm_1 qn_1 C_1 N_1 bs_1 [.ref C_0, .type "ValueError", .type "Exception", .type "BaseException", .type "object"] true sn_1 sub_1 ab_1 col_1 dd_1 m0_1 m1_1 m2_1 m3_1 m5_1 "ValueError.__new__"))
    (xs_1 : PySem.W.findIn K (.ref C_1) "__setattr__" = some (some (.builtin "object.__setattr__")))
    (xg_1 : PySem.W.findIn K (.ref C_1) "__getattribute__" = some (some (.builtin "BaseException.__getattribute__")))
    (xh_1 : PySem.W.findIn K (.ref C_1) "__getattr__" = some none)
    (xn_1 : PySem.W.findIn K (.ref C_1) "at" = some none)
    (ii_1 : PySem.W.findIn K (.ref C_1) "__init__" = some (some (.ref I_1)))
    (it_1 : PySem.W.typeIn K (.ref I_1) = some (.type "function"))
    (il_1 : K.lookup I_1 = some ⟨oc_i1, od_i1, .func (PySem.W.fnOf "__init__" "BadLetters.__init__" (defArgs ini_1) (defBody ini_1) (defScope ini_1) .none kV_i1 dc_i1 pm_i1 an_i1 cd_i1 ct_i1), sl_i1⟩)
    (ic_1 : PySem.W.codeIn K cd_i1 "BadLetters.__init__" = true)
    (ik_1 : PySem.W.keepIn K (.ref I_1) = true)
    (xk_1 : PySem.W.keepIn K (.ref C_1) = true)
    (xe_1 : PySem.W.subIn K (.ref C_1) (.type "BaseException") = some true)
    (xt_1 : PySem.W.typeIn K (.ref C_1) = some (.type "type"))
    (xd_1 : PySem.W.hasDictIn K C_1 = true)
    (xi_1 : PySem.W.isClsIn K C_1 = true)
    (xb_1 : PySem.W.subIn K (.ref C_1) (.ref C_0) = some true)
    (xa_2 : PySem.W.nsIn K mainGlobals "BadNumber" = some (some (.ref C_2)))
    (xl_2 : K.lookup C_2 = some (excClassObj nm_2 qn_2 C_2 N_2 bs_2 [.ref C_0, .type "ValueError", .type "Exception", .type "BaseException", .type "object"] true sn_2 sub_2 ab_2 col_2 dd_2 m0_2 m1_2 m2_2 m3_2 m5_2 "ValueError.__new__"))
    (xs_2 : PySem.W.findIn K (.ref C_2) "__setattr__" = some (some (.builtin "object.__setattr__")))
    (xg_2 : PySem.W.findIn K (.ref C_2) "__getattribute__" = some (some (.builtin "BaseException.__getattribute__")))
    (xh_2 : PySem.W.findIn K (.ref C_2) "__getattr__" = some none)
    (xn_2 : PySem.W.findIn K (.ref C_2) "at" = some none)
    (ii_2 : PySem.W.findIn K (.ref C_2) "__init__" = some (some (.ref I_2)))
    (it_2 : PySem.W.typeIn K (.ref I_2) = some (.type "function"))
    (il_2 : K.lookup I_2 = some ⟨oc_i2, od_i2, .func (PySem.W.fnOf "__init__" "BadNumber.__init__" (defArgs ini_2) (defBody ini_2) (defScope ini_2) .none kV_i2 dc_i2 pm_i2 an_i2 cd_i2 ct_i2), sl_i2⟩)
    (ic_2 : PySem.W.codeIn K cd_i2 "BadNumber.__init__" = true)
    (ik_2 : PySem.W.keepIn K (.ref I_2) = true)
    (xk_2 : PySem.W.keepIn K (.ref C_2) = true)
    (xe_2 : PySem.W.subIn K (.ref C_2) (.type "BaseException") = some true)
    (xt_2 : PySem.W.typeIn K (.ref C_2) = some (.type "type"))
    (xd_2 : PySem.W.hasDictIn K C_2 = true)
    (xi_2 : PySem.W.isClsIn K C_2 = true)
    (xb_2 : PySem.W.subIn K (.ref C_2) (.ref C_0) = some true)
    (xa_3 : PySem.W.nsIn K mainGlobals "BadCase" = some (some (.ref C_3)))
    (xl_3 : K.lookup C_3 = some (excClassObj nm_3 qn_3 C_3 N_3 bs_3 [.ref C_0, .type "ValueError", .type "Exception", .type "BaseException", .type "object"] true sn_3 sub_3 ab_3 col_3 dd_3 m0_3 m1_3 m2_3 m3_3 m5_3 "ValueError.__new__"))
    (xs_3 : PySem.W.findIn K (.ref C_3) "__setattr__" = some (some (.builtin "object.__setattr__")))
    (xg_3 : PySem.W.findIn K (.ref C_3) "__getattribute__" = some (some (.builtin "BaseException.__getattribute__")))
    (xh_3 : PySem.W.findIn K (.ref C_3) "__getattr__" = some none)
    (xn_3 : PySem.W.findIn K (.ref C_3) "at" = some none)
    (ii_3 : PySem.W.findIn K (.ref C_3) "__init__" = some (some (.ref I_3)))
    (it_3 : PySem.W.typeIn K (.ref I_3) = some (.type "function"))
    (il_3 : K.lookup I_3 = some ⟨oc_i3, od_i3, .func (PySem.W.fnOf "__init__" "BadCase.__init__" (defArgs ini_3) (defBody ini_3) (defScope ini_3) .none kV_i3 dc_i3 pm_i3 an_i3 cd_i3 ct_i3), sl_i3⟩)
    (ic_3 : PySem.W.codeIn K cd_i3 "BadCase.__init__" = true)
    (ik_3 : PySem.W.keepIn K (.ref I_3) = true)
    (xk_3 : PySem.W.keepIn K (.ref C_3) = true)
    (xe_3 : PySem.W.subIn K (.ref C_3) (.type "BaseException") = some true)
    (xt_3 : PySem.W.typeIn K (.ref C_3) = some (.type "type"))
    (xd_3 : PySem.W.hasDictIn K C_3 = true)
    (xi_3 : PySem.W.isClsIn K C_3 = true)
    (xb_3 : PySem.W.subIn K (.ref C_3) (.ref C_0) = some true)
    (xx_1_1 : PySem.W.subIn K (.ref C_1) (.ref C_1) = some true)
    (xx_1_2 : PySem.W.subIn K (.ref C_1) (.ref C_2) = some false)
    (xx_1_3 : PySem.W.subIn K (.ref C_1) (.ref C_3) = some false)
    (xx_2_1 : PySem.W.subIn K (.ref C_2) (.ref C_1) = some false)
    (xx_2_2 : PySem.W.subIn K (.ref C_2) (.ref C_2) = some true)
    (xx_2_3 : PySem.W.subIn K (.ref C_2) (.ref C_3) = some false)
    (xx_3_1 : PySem.W.subIn K (.ref C_3) (.ref C_1) = some false)
    (xx_3_2 : PySem.W.subIn K (.ref C_3) (.ref C_2) = some false)
    (xx_3_3 : PySem.W.subIn K (.ref C_3) (.ref C_3) = some true)
    (a_0 : PySem.W.nsIn K mainGlobals "_law_purse" = some (some (.ref f_0)))
    (l_0 : K.lookup f_0 = some ⟨oc_0, od_0, .func (PySem.W.fnOf "_law_purse" "_law_purse" (defArgs st__law_purse) (defBody st__law_purse) (defScope st__law_purse) .none kV_0 dc_0 pm_0 an_0 cd_0 ct_0), sl_0⟩)
    (c_0 : PySem.W.codeIn K cd_0 "_law_purse" = true)
    (k_0 : PySem.W.keepIn K (.ref f_0) = true)
    (a_1 : PySem.W.nsIn K mainGlobals "is_letters" = some (some (.ref f_1)))
    (l_1 : K.lookup f_1 = some ⟨oc_1, od_1, .func (PySem.W.fnOf "is_letters" "is_letters" (defArgs st_is_letters) (defBody st_is_letters) (defScope st_is_letters) .none kV_1 dc_1 pm_1 an_1 cd_1 ct_1), sl_1⟩)
    (c_1 : PySem.W.codeIn K cd_1 "is_letters" = true)
    (k_1 : PySem.W.keepIn K (.ref f_1) = true)
    (a_2 : PySem.W.nsIn K mainGlobals "plain_form" = some (some (.ref f_2)))
    (l_2 : K.lookup f_2 = some ⟨oc_2, od_2, .func (PySem.W.fnOf "plain_form" "plain_form" (defArgs st_plain_form) (defBody st_plain_form) (defScope st_plain_form) .none kV_2 dc_2 pm_2 an_2 cd_2 ct_2), sl_2⟩)
    (c_2 : PySem.W.codeIn K cd_2 "plain_form" = true)
    (k_2 : PySem.W.keepIn K (.ref f_2) = true)
    (a_3 : PySem.W.nsIn K mainGlobals "check_letters" = some (some (.ref f_3)))
    (l_3 : K.lookup f_3 = some ⟨oc_3, od_3, .func (PySem.W.fnOf "check_letters" "check_letters" (defArgs st_check_letters) (defBody st_check_letters) (defScope st_check_letters) .none kV_3 dc_3 pm_3 an_3 cd_3 ct_3), sl_3⟩)
    (c_3 : PySem.W.codeIn K cd_3 "check_letters" = true)
    (k_3 : PySem.W.keepIn K (.ref f_3) = true)
    (a_4 : PySem.W.nsIn K mainGlobals "check_ring" = some (some (.ref f_4)))
    (l_4 : K.lookup f_4 = some ⟨oc_4, od_4, .func (PySem.W.fnOf "check_ring" "check_ring" (defArgs st_check_ring) (defBody st_check_ring) (defScope st_check_ring) .none kV_4 dc_4 pm_4 an_4 cd_4 ct_4), sl_4⟩)
    (c_4 : PySem.W.codeIn K cd_4 "check_ring" = true)
    (k_4 : PySem.W.keepIn K (.ref f_4) = true)
    (a_5 : PySem.W.nsIn K mainGlobals "ring_pairs" = some (some (.ref f_5)))
    (l_5 : K.lookup f_5 = some ⟨oc_5, od_5, .func (PySem.W.fnOf "ring_pairs" "ring_pairs" (defArgs st_ring_pairs) (defBody st_ring_pairs) (defScope st_ring_pairs) .none kV_5 dc_5 pm_5 an_5 cd_5 ct_5), sl_5⟩)
    (c_5 : PySem.W.codeIn K cd_5 "ring_pairs" = true)
    (k_5 : PySem.W.keepIn K (.ref f_5) = true)
    (a_6 : PySem.W.nsIn K mainGlobals "even_names" = some (some (.ref f_6)))
    (l_6 : K.lookup f_6 = some ⟨oc_6, od_6, .func (PySem.W.fnOf "even_names" "even_names" (defArgs st_even_names) (defBody st_even_names) (defScope st_even_names) .none kV_6 dc_6 pm_6 an_6 cd_6 ct_6), sl_6⟩)
    (c_6 : PySem.W.codeIn K cd_6 "even_names" = true)
    (k_6 : PySem.W.keepIn K (.ref f_6) = true)
    (a_7 : PySem.W.nsIn K mainGlobals "seconds_count" = some (some (.ref f_7)))
    (l_7 : K.lookup f_7 = some ⟨oc_7, od_7, .func (PySem.W.fnOf "seconds_count" "seconds_count" (defArgs st_seconds_count) (defBody st_seconds_count) (defScope st_seconds_count) .none kV_7 dc_7 pm_7 an_7 cd_7 ct_7), sl_7⟩)
    (c_7 : PySem.W.codeIn K cd_7 "seconds_count" = true)
    (k_7 : PySem.W.keepIn K (.ref f_7) = true)
    (a_8 : PySem.W.nsIn K mainGlobals "ring_names" = some (some (.ref f_8)))
    (l_8 : K.lookup f_8 = some ⟨oc_8, od_8, .func (PySem.W.fnOf "ring_names" "ring_names" (defArgs st_ring_names) (defBody st_ring_names) (defScope st_ring_names) .none kV_8 dc_8 pm_8 an_8 cd_8 ct_8), sl_8⟩)
    (c_8 : PySem.W.codeIn K cd_8 "ring_names" = true)
    (k_8 : PySem.W.keepIn K (.ref f_8) = true)
    (a_9 : PySem.W.nsIn K mainGlobals "is_int" = some (some (.ref f_9)))
    (l_9 : K.lookup f_9 = some ⟨oc_9, od_9, .func (PySem.W.fnOf "is_int" "is_int" (defArgs st_is_int) (defBody st_is_int) (defScope st_is_int) .none kV_9 dc_9 pm_9 an_9 cd_9 ct_9), sl_9⟩)
    (c_9 : PySem.W.codeIn K cd_9 "is_int" = true)
    (k_9 : PySem.W.keepIn K (.ref f_9) = true)
    (a_10 : PySem.W.nsIn K mainGlobals "check_number" = some (some (.ref f_10)))
    (l_10 : K.lookup f_10 = some ⟨oc_10, od_10, .func (PySem.W.fnOf "check_number" "check_number" (defArgs st_check_number) (defBody st_check_number) (defScope st_check_number) .none kV_10 dc_10 pm_10 an_10 cd_10 ct_10), sl_10⟩)
    (c_10 : PySem.W.codeIn K cd_10 "check_number" = true)
    (k_10 : PySem.W.keepIn K (.ref f_10) = true)
    (a_11 : PySem.W.nsIn K mainGlobals "ring_bound" = some (some (.ref f_11)))
    (l_11 : K.lookup f_11 = some ⟨oc_11, od_11, .func (PySem.W.fnOf "ring_bound" "ring_bound" (defArgs st_ring_bound) (defBody st_ring_bound) (defScope st_ring_bound) .none kV_11 dc_11 pm_11 an_11 cd_11 ct_11), sl_11⟩)
    (c_11 : PySem.W.codeIn K cd_11 "ring_bound" = true)
    (k_11 : PySem.W.keepIn K (.ref f_11) = true)
    (a_12 : PySem.W.nsIn K mainGlobals "ring_most" = some (some (.ref f_12)))
    (l_12 : K.lookup f_12 = some ⟨oc_12, od_12, .func (PySem.W.fnOf "ring_most" "ring_most" (defArgs st_ring_most) (defBody st_ring_most) (defScope st_ring_most) .none kV_12 dc_12 pm_12 an_12 cd_12 ct_12), sl_12⟩)
    (c_12 : PySem.W.codeIn K cd_12 "ring_most" = true)
    (k_12 : PySem.W.keepIn K (.ref f_12) = true)
    (a_13 : PySem.W.nsIn K mainGlobals "power_of" = some (some (.ref f_13)))
    (l_13 : K.lookup f_13 = some ⟨oc_13, od_13, .func (PySem.W.fnOf "power_of" "power_of" (defArgs st_power_of) (defBody st_power_of) (defScope st_power_of) .none kV_13 dc_13 pm_13 an_13 cd_13 ct_13), sl_13⟩)
    (c_13 : PySem.W.codeIn K cd_13 "power_of" = true)
    (k_13 : PySem.W.keepIn K (.ref f_13) = true)
    (a_14 : PySem.W.nsIn K mainGlobals "even_most" = some (some (.ref f_14)))
    (l_14 : K.lookup f_14 = some ⟨oc_14, od_14, .func (PySem.W.fnOf "even_most" "even_most" (defArgs st_even_most) (defBody st_even_most) (defScope st_even_most) .none kV_14 dc_14 pm_14 an_14 cd_14 ct_14), sl_14⟩)
    (c_14 : PySem.W.codeIn K cd_14 "even_most" = true)
    (k_14 : PySem.W.keepIn K (.ref f_14) = true)
    (a_15 : PySem.W.nsIn K mainGlobals "_law_word_of" = some (some (.ref f_15)))
    (l_15 : K.lookup f_15 = some ⟨oc_15, od_15, .func (PySem.W.fnOf "_law_word_of" "_law_word_of" (defArgs st__law_word_of) (defBody st__law_word_of) (defScope st__law_word_of) .none kV_15 dc_15 pm_15 an_15 cd_15 ct_15), sl_15⟩)
    (c_15 : PySem.W.codeIn K cd_15 "_law_word_of" = true)
    (k_15 : PySem.W.keepIn K (.ref f_15) = true)
    (a_16 : PySem.W.nsIn K mainGlobals "_law_refused" = some (some (.ref f_16)))
    (l_16 : K.lookup f_16 = some ⟨oc_16, od_16, .func (PySem.W.fnOf "_law_refused" "_law_refused" (defArgs st__law_refused) (defBody st__law_refused) (defScope st__law_refused) .none kV_16 dc_16 pm_16 an_16 cd_16 ct_16), sl_16⟩)
    (c_16 : PySem.W.codeIn K cd_16 "_law_refused" = true)
    (k_16 : PySem.W.keepIn K (.ref f_16) = true)
    (a_17 : PySem.W.nsIn K mainGlobals "_law_pick" = some (some (.ref f_17)))
    (l_17 : K.lookup f_17 = some ⟨oc_17, od_17, .func (PySem.W.fnOf "_law_pick" "_law_pick" (defArgs st__law_pick) (defBody st__law_pick) (defScope st__law_pick) .none kV_17 dc_17 pm_17 an_17 cd_17 ct_17), sl_17⟩)
    (c_17 : PySem.W.codeIn K cd_17 "_law_pick" = true)
    (k_17 : PySem.W.keepIn K (.ref f_17) = true)
    (a_18 : PySem.W.nsIn K mainGlobals "_law_ring_letters" = some (some (.ref f_18)))
    (l_18 : K.lookup f_18 = some ⟨oc_18, od_18, .func (PySem.W.fnOf "_law_ring_letters" "_law_ring_letters" (defArgs st__law_ring_letters) (defBody st__law_ring_letters) (defScope st__law_ring_letters) .none kV_18 dc_18 pm_18 an_18 cd_18 ct_18), sl_18⟩)
    (c_18 : PySem.W.codeIn K cd_18 "_law_ring_letters" = true)
    (k_18 : PySem.W.keepIn K (.ref f_18) = true)
    (a_19 : PySem.W.nsIn K mainGlobals "_law_great" = some (some (.ref f_19)))
    (l_19 : K.lookup f_19 = some ⟨oc_19, od_19, .func (PySem.W.fnOf "_law_great" "_law_great" (defArgs st__law_great) (defBody st__law_great) (defScope st__law_great) .none kV_19 dc_19 pm_19 an_19 cd_19 ct_19), sl_19⟩)
    (c_19 : PySem.W.codeIn K cd_19 "_law_great" = true)
    (k_19 : PySem.W.keepIn K (.ref f_19) = true)
    (a_20 : PySem.W.nsIn K mainGlobals "_law_is_int" = some (some (.ref f_20)))
    (l_20 : K.lookup f_20 = some ⟨oc_20, od_20, .func (PySem.W.fnOf "_law_is_int" "_law_is_int" (defArgs st__law_is_int) (defBody st__law_is_int) (defScope st__law_is_int) .none kV_20 dc_20 pm_20 an_20 cd_20 ct_20), sl_20⟩)
    (c_20 : PySem.W.codeIn K cd_20 "_law_is_int" = true)
    (k_20 : PySem.W.keepIn K (.ref f_20) = true)
    (a_21 : PySem.W.nsIn K mainGlobals "_law_most" = some (some (.ref f_21)))
    (l_21 : K.lookup f_21 = some ⟨oc_21, od_21, .func (PySem.W.fnOf "_law_most" "_law_most" (defArgs st__law_most) (defBody st__law_most) (defScope st__law_most) .none kV_21 dc_21 pm_21 an_21 cd_21 ct_21), sl_21⟩)
    (c_21 : PySem.W.codeIn K cd_21 "_law_most" = true)
    (k_21 : PySem.W.keepIn K (.ref f_21) = true)
    (a_22 : PySem.W.nsIn K mainGlobals "_law_numbers" = some (some (.ref f_22)))
    (l_22 : K.lookup f_22 = some ⟨oc_22, od_22, .func (PySem.W.fnOf "_law_numbers" "_law_numbers" (defArgs st__law_numbers) (defBody st__law_numbers) (defScope st__law_numbers) .none kV_22 dc_22 pm_22 an_22 cd_22 ct_22), sl_22⟩)
    (c_22 : PySem.W.codeIn K cd_22 "_law_numbers" = true)
    (k_22 : PySem.W.keepIn K (.ref f_22) = true)
    (a_23 : PySem.W.nsIn K mainGlobals "_law_pairs" = some (some (.ref f_23)))
    (l_23 : K.lookup f_23 = some ⟨oc_23, od_23, .func (PySem.W.fnOf "_law_pairs" "_law_pairs" (defArgs st__law_pairs) (defBody st__law_pairs) (defScope st__law_pairs) .none kV_23 dc_23 pm_23 an_23 cd_23 ct_23), sl_23⟩)
    (c_23 : PySem.W.codeIn K cd_23 "_law_pairs" = true)
    (k_23 : PySem.W.keepIn K (.ref f_23) = true)
    (a_24 : PySem.W.nsIn K mainGlobals "_law_near" = some (some (.ref f_24)))
    (l_24 : K.lookup f_24 = some ⟨oc_24, od_24, .func (PySem.W.fnOf "_law_near" "_law_near" (defArgs st__law_near) (defBody st__law_near) (defScope st__law_near) .none kV_24 dc_24 pm_24 an_24 cd_24 ct_24), sl_24⟩)
    (c_24 : PySem.W.codeIn K cd_24 "_law_near" = true)
    (k_24 : PySem.W.keepIn K (.ref f_24) = true)
    (a_25 : PySem.W.nsIn K mainGlobals "_law_two_near" = some (some (.ref f_25)))
    (l_25 : K.lookup f_25 = some ⟨oc_25, od_25, .func (PySem.W.fnOf "_law_two_near" "_law_two_near" (defArgs st__law_two_near) (defBody st__law_two_near) (defScope st__law_two_near) .none kV_25 dc_25 pm_25 an_25 cd_25 ct_25), sl_25⟩)
    (c_25 : PySem.W.codeIn K cd_25 "_law_two_near" = true)
    (k_25 : PySem.W.keepIn K (.ref f_25) = true)
    (a_26 : PySem.W.nsIn K mainGlobals "_law_trying" = some (some (.ref f_26)))
    (l_26 : K.lookup f_26 = some ⟨oc_26, od_26, .func (PySem.W.fnOf "_law_trying" "_law_trying" (defArgs st__law_trying) (defBody st__law_trying) (defScope st__law_trying) .none kV_26 dc_26 pm_26 an_26 cd_26 ct_26), sl_26⟩)
    (c_26 : PySem.W.codeIn K cd_26 "_law_trying" = true)
    (k_26 : PySem.W.keepIn K (.ref f_26) = true)
    (a_27 : PySem.W.nsIn K mainGlobals "_law_names_right" = some (some (.ref f_27)))
    (l_27 : K.lookup f_27 = some ⟨oc_27, od_27, .func (PySem.W.fnOf "_law_names_right" "_law_names_right" (defArgs st__law_names_right) (defBody st__law_names_right) (defScope st__law_names_right) .none kV_27 dc_27 pm_27 an_27 cd_27 ct_27), sl_27⟩)
    (c_27 : PySem.W.codeIn K cd_27 "_law_names_right" = true)
    (k_27 : PySem.W.keepIn K (.ref f_27) = true)
    (a_28 : PySem.W.nsIn K mainGlobals "law" = some (some (.ref f_28)))
    (l_28 : K.lookup f_28 = some ⟨oc_28, od_28, .func (PySem.W.fnOf "law" "law" (defArgs st_law) (defBody st_law) (defScope st_law) .none kV_28 dc_28 pm_28 an_28 cd_28 ct_28), sl_28⟩)
    (c_28 : PySem.W.codeIn K cd_28 "law" = true)
    (k_28 : PySem.W.keepIn K (.ref f_28) = true)
    (xe_0 : PySem.W.subIn K (.ref C_0) (.type "BaseException") = some true) :
    ∃ fd : FuncData, (∀ (s : Shared) (u : Value), BindsTo s fd ⟨[u], []⟩ [("script", u)]) ∧ ∀ base : Heap, K.In base → base.Ns mainGlobals mg → FnD P w K mg base 9 fa fd ["script"] f_law := by
  have e := hfa.symm.trans (PySem.W.mg_of X G a_28)
  cases e
  have F_0 := fun_mk (st := st__law_purse) l_0 c_0 k_0
  have D_0 : Def K mg "_law_purse" st__law_purse ["script"] := ⟨_, _, PySem.W.mg_of X G a_0, F_0, F_0.binds (ps := ["script"]) fun _ _ _ _ _ _ us hl => match us, hl with | [_], _ => rfl⟩
  have F_1 := fun_mk (st := st_is_letters) l_1 c_1 k_1
  have D_1 : Def K mg "is_letters" st_is_letters ["x"] := ⟨_, _, PySem.W.mg_of X G a_1, F_1, F_1.binds (ps := ["x"]) fun _ _ _ _ _ _ us hl => match us, hl with | [_], _ => rfl⟩
  have F_2 := fun_mk (st := st_plain_form) l_2 c_2 k_2
  have D_2 : Def K mg "plain_form" st_plain_form ["x"] := ⟨_, _, PySem.W.mg_of X G a_2, F_2, F_2.binds (ps := ["x"]) fun _ _ _ _ _ _ us hl => match us, hl with | [_], _ => rfl⟩
  have F_3 := fun_mk (st := st_check_letters) l_3 c_3 k_3
  have D_3 : Def K mg "check_letters" st_check_letters ["x"] := ⟨_, _, PySem.W.mg_of X G a_3, F_3, F_3.binds (ps := ["x"]) fun _ _ _ _ _ _ us hl => match us, hl with | [_], _ => rfl⟩
  have F_4 := fun_mk (st := st_check_ring) l_4 c_4 k_4
  have D_4 : Def K mg "check_ring" st_check_ring ["letters"] := ⟨_, _, PySem.W.mg_of X G a_4, F_4, F_4.binds (ps := ["letters"]) fun _ _ _ _ _ _ us hl => match us, hl with | [_], _ => rfl⟩
  have F_5 := fun_mk (st := st_ring_pairs) l_5 c_5 k_5
  have D_5 : Def K mg "ring_pairs" st_ring_pairs ["letters"] := ⟨_, _, PySem.W.mg_of X G a_5, F_5, F_5.binds (ps := ["letters"]) fun _ _ _ _ _ _ us hl => match us, hl with | [_], _ => rfl⟩
  have F_6 := fun_mk (st := st_even_names) l_6 c_6 k_6
  have D_6 : Def K mg "even_names" st_even_names ["letters"] := ⟨_, _, PySem.W.mg_of X G a_6, F_6, F_6.binds (ps := ["letters"]) fun _ _ _ _ _ _ us hl => match us, hl with | [_], _ => rfl⟩
  have F_7 := fun_mk (st := st_seconds_count) l_7 c_7 k_7
  have D_7 : Def K mg "seconds_count" st_seconds_count ["q", "x"] := ⟨_, _, PySem.W.mg_of X G a_7, F_7, F_7.binds (ps := ["q", "x"]) fun _ _ _ _ _ _ us hl => match us, hl with | [_, _], _ => rfl⟩
  have F_8 := fun_mk (st := st_ring_names) l_8 c_8 k_8
  have D_8 : Def K mg "ring_names" st_ring_names ["letters"] := ⟨_, _, PySem.W.mg_of X G a_8, F_8, F_8.binds (ps := ["letters"]) fun _ _ _ _ _ _ us hl => match us, hl with | [_], _ => rfl⟩
  have F_9 := fun_mk (st := st_is_int) l_9 c_9 k_9
  have D_9 : Def K mg "is_int" st_is_int ["x"] := ⟨_, _, PySem.W.mg_of X G a_9, F_9, F_9.binds (ps := ["x"]) fun _ _ _ _ _ _ us hl => match us, hl with | [_], _ => rfl⟩
  have F_10 := fun_mk (st := st_check_number) l_10 c_10 k_10
  have D_10 : Def K mg "check_number" st_check_number ["x", "least"] := ⟨_, _, PySem.W.mg_of X G a_10, F_10, F_10.binds (ps := ["x", "least"]) fun _ _ _ _ _ _ us hl => match us, hl with | [_, _], _ => rfl⟩
  have F_11 := fun_mk (st := st_ring_bound) l_11 c_11 k_11
  have D_11 : Def K mg "ring_bound" st_ring_bound ["q", "many"] := ⟨_, _, PySem.W.mg_of X G a_11, F_11, F_11.binds (ps := ["q", "many"]) fun _ _ _ _ _ _ us hl => match us, hl with | [_, _], _ => rfl⟩
  have F_12 := fun_mk (st := st_ring_most) l_12 c_12 k_12
  have D_12 : Def K mg "ring_most" st_ring_most ["q"] := ⟨_, _, PySem.W.mg_of X G a_12, F_12, F_12.binds (ps := ["q"]) fun _ _ _ _ _ _ us hl => match us, hl with | [_], _ => rfl⟩
  have F_13 := fun_mk (st := st_power_of) l_13 c_13 k_13
  have D_13 : Def K mg "power_of" st_power_of ["base", "m"] := ⟨_, _, PySem.W.mg_of X G a_13, F_13, F_13.binds (ps := ["base", "m"]) fun _ _ _ _ _ _ us hl => match us, hl with | [_, _], _ => rfl⟩
  have F_14 := fun_mk (st := st_even_most) l_14 c_14 k_14
  have D_14 : Def K mg "even_most" st_even_most ["q", "m"] := ⟨_, _, PySem.W.mg_of X G a_14, F_14, F_14.binds (ps := ["q", "m"]) fun _ _ _ _ _ _ us hl => match us, hl with | [_, _], _ => rfl⟩
  have F_15 := fun_mk (st := st__law_word_of) l_15 c_15 k_15
  have D_15 : Def K mg "_law_word_of" st__law_word_of ["kind", "one", "two"] := ⟨_, _, PySem.W.mg_of X G a_15, F_15, F_15.binds (ps := ["kind", "one", "two"]) fun _ _ _ _ _ _ us hl => match us, hl with | [_, _, _], _ => rfl⟩
  have F_16 := fun_mk (st := st__law_refused) l_16 c_16 k_16
  have D_16 : Def K mg "_law_refused" st__law_refused [] := ⟨_, _, PySem.W.mg_of X G a_16, F_16, F_16.binds (ps := []) fun _ _ _ _ _ _ us hl => match us, hl with | [], _ => rfl⟩
  have F_17 := fun_mk (st := st__law_pick) l_17 c_17 k_17
  have D_17 : Def K mg "_law_pick" st__law_pick ["purse", "many"] := ⟨_, _, PySem.W.mg_of X G a_17, F_17, F_17.binds (ps := ["purse", "many"]) fun _ _ _ _ _ _ us hl => match us, hl with | [_, _], _ => rfl⟩
  have F_18 := fun_mk (st := st__law_ring_letters) l_18 c_18 k_18
  have D_18 : Def K mg "_law_ring_letters" st__law_ring_letters ["purse", "q"] := ⟨_, _, PySem.W.mg_of X G a_18, F_18, F_18.binds (ps := ["purse", "q"]) fun _ _ _ _ _ _ us hl => match us, hl with | [_, _], _ => rfl⟩
  have F_19 := fun_mk (st := st__law_great) l_19 c_19 k_19
  have D_19 : Def K mg "_law_great" st__law_great ["purse", "many"] := ⟨_, _, PySem.W.mg_of X G a_19, F_19, F_19.binds (ps := ["purse", "many"]) fun _ _ _ _ _ _ us hl => match us, hl with | [_, _], _ => rfl⟩
  have F_20 := fun_mk (st := st__law_is_int) l_20 c_20 k_20
  have D_20 : Def K mg "_law_is_int" st__law_is_int ["told", "due"] := ⟨_, _, PySem.W.mg_of X G a_20, F_20, F_20.binds (ps := ["told", "due"]) fun _ _ _ _ _ _ us hl => match us, hl with | [_, _], _ => rfl⟩
  have F_21 := fun_mk (st := st__law_most) l_21 c_21 k_21
  have D_21 : Def K mg "_law_most" st__law_most ["q"] := ⟨_, _, PySem.W.mg_of X G a_21, F_21, F_21.binds (ps := ["q"]) fun _ _ _ _ _ _ us hl => match us, hl with | [_], _ => rfl⟩
  have F_22 := fun_mk (st := st__law_numbers) l_22 c_22 k_22
  have D_22 : Def K mg "_law_numbers" st__law_numbers ["q", "many", "m"] := ⟨_, _, PySem.W.mg_of X G a_22, F_22, F_22.binds (ps := ["q", "many", "m"]) fun _ _ _ _ _ _ us hl => match us, hl with | [_, _, _], _ => rfl⟩
  have F_23 := fun_mk (st := st__law_pairs) l_23 c_23 k_23
  have D_23 : Def K mg "_law_pairs" st__law_pairs ["letters"] := ⟨_, _, PySem.W.mg_of X G a_23, F_23, F_23.binds (ps := ["letters"]) fun _ _ _ _ _ _ us hl => match us, hl with | [_], _ => rfl⟩
  have F_24 := fun_mk (st := st__law_near) l_24 c_24 k_24
  have D_24 : Def K mg "_law_near" st__law_near ["letters", "a", "b"] := ⟨_, _, PySem.W.mg_of X G a_24, F_24, F_24.binds (ps := ["letters", "a", "b"]) fun _ _ _ _ _ _ us hl => match us, hl with | [_, _, _], _ => rfl⟩
  have F_25 := fun_mk (st := st__law_two_near) l_25 c_25 k_25
  have D_25 : Def K mg "_law_two_near" st__law_two_near ["letters", "one", "two"] := ⟨_, _, PySem.W.mg_of X G a_25, F_25, F_25.binds (ps := ["letters", "one", "two"]) fun _ _ _ _ _ _ us hl => match us, hl with | [_, _, _], _ => rfl⟩
  have F_26 := fun_mk (st := st__law_trying) l_26 c_26 k_26
  have D_26 : Def K mg "_law_trying" st__law_trying [] := ⟨_, _, PySem.W.mg_of X G a_26, F_26, F_26.binds (ps := []) fun _ _ _ _ _ _ us hl => match us, hl with | [], _ => rfl⟩
  have F_27 := fun_mk (st := st__law_names_right) l_27 c_27 k_27
  have D_27 : Def K mg "_law_names_right" st__law_names_right ["letters"] := ⟨_, _, PySem.W.mg_of X G a_27, F_27, F_27.binds (ps := ["letters"]) fun _ _ _ _ _ _ us hl => match us, hl with | [_], _ => rfl⟩
  have F_28 := fun_mk (st := st_law) l_28 c_28 k_28
  have M : MG mg := { zlen := PySem.W.mg_none_of X G z_len, zmin := PySem.W.mg_none_of X G z_min, zint := PySem.W.mg_none_of X G z_int, zbool := PySem.W.mg_none_of X G z_bool, zstr := PySem.W.mg_none_of X G z_str, ztuple := PySem.W.mg_none_of X G z_tuple, zlist := PySem.W.mg_none_of X G z_list, zsorted := PySem.W.mg_none_of X G z_sorted, zset := PySem.W.mg_none_of X G z_set, zrange := PySem.W.mg_none_of X G z_range, zisinstance := PySem.W.mg_none_of X G z_isinstance, zrepr := PySem.W.mg_none_of X G z_repr, cSMALL := ⟨_, PySem.W.mg_of X G g_SMALL⟩, cFIGURES := ⟨_, PySem.W.mg_of X G g_FIGURES⟩, cSIGNS := ⟨_, PySem.W.mg_of X G g_SIGNS⟩, cMOST_SIGNS := ⟨_, PySem.W.mg_of X G g_MOST_SIGNS⟩, cLEAST_RING := ⟨_, PySem.W.mg_of X G g_LEAST_RING⟩ }
  have mC_1 := PySem.W.mg_of X G xa_1
  have mC_2 := PySem.W.mg_of X G xa_2
  have mC_3 := PySem.W.mg_of X G xa_3
  have mC_0 := PySem.W.mg_of X G xa_0
  have FI_1 := fun_mk (st := ini_1) il_1 ic_1 ik_1
  have bI_1 := FI_1.binds (ps := ["self", "at"]) fun _ _ _ _ _ _ us hl => match us, hl with | [_, _], _ => rfl
  have O_1 : OexC K C_1 := ⟨⟨_, _, _, _, _, _, _, _, _, _, _, _, _, _, _, xl_1, rfl⟩, xs_1, xe_1, xt_1, xk_1⟩
  have T_1 : ∀ base : Heap, XcT K mg P w base "BadLetters" C_1 := fun base => ⟨mC_1, O_1, ⟨xg_1, xh_1, xe_1, xd_1⟩, xn_1, ⟨_, _, ii_1, it_1, ok_init FI_1 isc_1 rfl (Or.inl rfl) (Or.inl rfl), bI_1⟩⟩
  have FI_2 := fun_mk (st := ini_2) il_2 ic_2 ik_2
  have bI_2 := FI_2.binds (ps := ["self", "at"]) fun _ _ _ _ _ _ us hl => match us, hl with | [_, _], _ => rfl
  have O_2 : OexC K C_2 := ⟨⟨_, _, _, _, _, _, _, _, _, _, _, _, _, _, _, xl_2, rfl⟩, xs_2, xe_2, xt_2, xk_2⟩
  have T_2 : ∀ base : Heap, XcT K mg P w base "BadNumber" C_2 := fun base => ⟨mC_2, O_2, ⟨xg_2, xh_2, xe_2, xd_2⟩, xn_2, ⟨_, _, ii_2, it_2, ok_init FI_2 isc_2 rfl (Or.inl rfl) (Or.inl rfl), bI_2⟩⟩
  have FI_3 := fun_mk (st := ini_3) il_3 ic_3 ik_3
  have bI_3 := FI_3.binds (ps := ["self", "at"]) fun _ _ _ _ _ _ us hl => match us, hl with | [_, _], _ => rfl
  have O_3 : OexC K C_3 := ⟨⟨_, _, _, _, _, _, _, _, _, _, _, _, _, _, _, xl_3, rfl⟩, xs_3, xe_3, xt_3, xk_3⟩
  have T_3 : ∀ base : Heap, XcT K mg P w base "BadCase" C_3 := fun base => ⟨mC_3, O_3, ⟨xg_3, xh_3, xe_3, xd_3⟩, xn_3, ⟨_, _, ii_3, it_3, ok_init FI_3 isc_3 rfl (Or.inl rfl) (Or.inl rfl), bI_3⟩⟩
  have XK : ∀ base : Heap, XcK K mg P w base knX "DisguiseError" := by
    intro base
    refine ⟨fun c hc => ?_, fun c hc k hk Cc Ck h1 h2 => ?_, C_0, mC_0, fun c hc Cc h1 => ?_⟩
    · rcases (by simpa [knX] using hc : c = Str.ofString "BadLetters" ∨ c = Str.ofString "BadNumber" ∨ c = Str.ofString "BadCase") with rfl | rfl | rfl
      · exact ⟨_, T_1 base⟩
      · exact ⟨_, T_2 base⟩
      · exact ⟨_, T_3 base⟩
    · rcases (by simpa [knX] using hc : c = Str.ofString "BadLetters" ∨ c = Str.ofString "BadNumber" ∨ c = Str.ofString "BadCase") with rfl | rfl | rfl <;> rcases (by simpa [knX] using hk : k = Str.ofString "BadLetters" ∨ k = Str.ofString "BadNumber" ∨ k = Str.ofString "BadCase") with rfl | rfl | rfl
      · cases mC_1.symm.trans h1
        cases mC_1.symm.trans h2
        exact (exm_of xe_1 xi_1 xt_1 xx_1_1 xe_1).trans (by decide +kernel)
      · cases mC_1.symm.trans h1
        cases mC_2.symm.trans h2
        exact (exm_of xe_1 xi_2 xt_2 xx_1_2 xe_2).trans (by decide +kernel)
      · cases mC_1.symm.trans h1
        cases mC_3.symm.trans h2
        exact (exm_of xe_1 xi_3 xt_3 xx_1_3 xe_3).trans (by decide +kernel)
      · cases mC_2.symm.trans h1
        cases mC_1.symm.trans h2
        exact (exm_of xe_2 xi_1 xt_1 xx_2_1 xe_1).trans (by decide +kernel)
      · cases mC_2.symm.trans h1
        cases mC_2.symm.trans h2
        exact (exm_of xe_2 xi_2 xt_2 xx_2_2 xe_2).trans (by decide +kernel)
      · cases mC_2.symm.trans h1
        cases mC_3.symm.trans h2
        exact (exm_of xe_2 xi_3 xt_3 xx_2_3 xe_3).trans (by decide +kernel)
      · cases mC_3.symm.trans h1
        cases mC_1.symm.trans h2
        exact (exm_of xe_3 xi_1 xt_1 xx_3_1 xe_1).trans (by decide +kernel)
      · cases mC_3.symm.trans h1
        cases mC_2.symm.trans h2
        exact (exm_of xe_3 xi_2 xt_2 xx_3_2 xe_2).trans (by decide +kernel)
      · cases mC_3.symm.trans h1
        cases mC_3.symm.trans h2
        exact (exm_of xe_3 xi_3 xt_3 xx_3_3 xe_3).trans (by decide +kernel)
    · rcases (by simpa [knX] using hc : c = Str.ofString "BadLetters" ∨ c = Str.ofString "BadNumber" ∨ c = Str.ofString "BadCase") with rfl | rfl | rfl
      · cases mC_1.symm.trans h1
        exact exm_of xe_1 xi_0 xt_0 xb_1 xe_0
      · cases mC_2.symm.trans h1
        exact exm_of xe_2 xi_0 xt_0 xb_2 xe_0
      · cases mC_3.symm.trans h1
        exact exm_of xe_3 xi_0 xt_0 xb_3 xe_0
  refine ⟨PySem.W.fnOf "law" "law" (defArgs st_law) (defBody st_law) (defScope st_law) .none kV_28 dc_28 pm_28 an_28 cd_28 ct_28, fun s u => .of_eq rfl, fun base _ _ => ?_⟩
  have Z_0 := k__law_purse (P := P) (w := w) (base := base) M D_0
  have Z_1 := k_is_letters (P := P) (w := w) (base := base) M D_1
  have Z_2 := kg_plain_form (P := P) (w := w) (base := base) M D_2 3
  have Z_3 := k_check_letters (P := P) (w := w) (base := base) M D_3 Z_1 Z_2 (XK base)
  have Z_4 := k_check_ring (P := P) (w := w) (base := base) M D_4 Z_3 (XK base)
  have Z_5 := k_ring_pairs (P := P) (w := w) (base := base) M D_5 Z_4
  have Z_6 := k_even_names (P := P) (w := w) (base := base) M D_6
  have Z_7 := k_seconds_count (P := P) (w := w) (base := base) M D_7
  have Z_8 := k_ring_names (P := P) (w := w) (base := base) M D_8 Z_4 Z_6 Z_7
  have Z_9 := k_is_int (P := P) (w := w) (base := base) M D_9
  have Z_10 := k_check_number (P := P) (w := w) (base := base) M D_10 Z_9 Z_2 (XK base)
  have Z_11 := k_ring_bound (P := P) (w := w) (base := base) M D_11 Z_10
  have Z_12 := k_ring_most (P := P) (w := w) (base := base) M D_12 Z_10
  have Z_13 := k_power_of (P := P) (w := w) (base := base) M D_13
  have Z_14 := k_even_most (P := P) (w := w) (base := base) M D_14 Z_10 Z_13 (XK base)
  have Z_15 := k__law_word_of (P := P) (w := w) (base := base) M D_15 Z_5 Z_8 Z_11 Z_12 Z_14 (XK base)
  have Z_16 := k__law_refused (P := P) (w := w) (base := base) M D_16 Z_15
  have Z_17 := k__law_pick (P := P) (w := w) (base := base) M D_17
  have Z_18 := k__law_ring_letters (P := P) (w := w) (base := base) M D_18 Z_17
  have Z_19 := k__law_great (P := P) (w := w) (base := base) M D_19 Z_17
  have Z_20 := k__law_is_int (P := P) (w := w) (base := base) M D_20
  have Z_21 := k__law_most (P := P) (w := w) (base := base) M D_21
  have Z_22 := k__law_numbers (P := P) (w := w) (base := base) M D_22 Z_11 Z_12 Z_14 Z_20 Z_21 (XK base)
  have Z_23 := k__law_pairs (P := P) (w := w) (base := base) M D_23
  have Z_24 := k__law_near (P := P) (w := w) (base := base) M D_24
  have Z_25 := k__law_two_near (P := P) (w := w) (base := base) M D_25 Z_24
  have Z_26 := k__law_trying (P := P) (w := w) (base := base) M D_26 Z_12 Z_23 Z_25
  have Z_27 := k__law_names_right (P := P) (w := w) (base := base) M D_27 Z_5 Z_8 Z_21 Z_25
  exact kf_law (P := P) (w := w) (base := base) M F_28 Z_0 Z_16 Z_17 Z_18 Z_19 Z_21 Z_22 Z_26 Z_27
end Sh
open PySem PySem.W PyProof.Rows
set_option maxRecDepth 100000 in
set_option maxHeartbeats 0 in
theorem PySem.Challenge.cw_nodisguise_k88_rings_apart_holds : PySem.Challenge.rw_nodisguise_k88_rings_apart.Holds := by
  w_on; o_law; k_head; (case hw => w_witness2)
  k_fill
  refine Sh.walk_end (l := PySem.Challenge.rw_nodisguise_k88_rings_apart) (n := 63) (k := 9) (x := "script") (fl := Sh.f_law) rfl (by decide) rfl ⟨rfl, by decide, by decide⟩ (fun w h Y => PySem.W.kIn_of Y) ?F Sh.plain_law
  case F =>
    intro w mg fa h KX G hmg
    refine' Sh.all_defs KX G hmg ?z_len ?z_min ?z_int ?z_bool ?z_str ?z_tuple ?z_list ?z_sorted ?z_set ?z_range ?z_isinstance ?z_repr ?g_SMALL ?g_FIGURES ?g_SIGNS ?g_MOST_SIGNS ?g_LEAST_RING ?xa_0 ?xi_0 ?xt_0 ?xa_1 ?xl_1 ?xs_1 ?xg_1 ?xh_1 ?xn_1 ?ii_1 ?it_1 ?il_1 ?ic_1 ?ik_1 ?xk_1 ?xe_1 ?xt_1 ?xd_1 ?xi_1 ?xb_1 ?xa_2 ?xl_2 ?xs_2 ?xg_2 ?xh_2 ?xn_2 ?ii_2 ?it_2 ?il_2 ?ic_2 ?ik_2 ?xk_2 ?xe_2 ?xt_2 ?xd_2 ?xi_2 ?xb_2 ?xa_3 ?xl_3 ?xs_3 ?xg_3 ?xh_3 ?xn_3 ?ii_3 ?it_3 ?il_3 ?ic_3 ?ik_3 ?xk_3 ?xe_3 ?xt_3 ?xd_3 ?xi_3 ?xb_3 ?xx_1_1 ?xx_1_2 ?xx_1_3 ?xx_2_1 ?xx_2_2 ?xx_2_3 ?xx_3_1 ?xx_3_2 ?xx_3_3 ?a_0 ?l_0 ?c_0 ?k_0 ?a_1 ?l_1 ?c_1 ?k_1 ?a_2 ?l_2 ?c_2 ?k_2 ?a_3 ?l_3 ?c_3 ?k_3 ?a_4 ?l_4 ?c_4 ?k_4 ?a_5 ?l_5 ?c_5 ?k_5 ?a_6 ?l_6 ?c_6 ?k_6 ?a_7 ?l_7 ?c_7 ?k_7 ?a_8 ?l_8 ?c_8 ?k_8 ?a_9 ?l_9 ?c_9 ?k_9 ?a_10 ?l_10 ?c_10 ?k_10 ?a_11 ?l_11 ?c_11 ?k_11 ?a_12 ?l_12 ?c_12 ?k_12 ?a_13 ?l_13 ?c_13 ?k_13 ?a_14 ?l_14 ?c_14 ?k_14 ?a_15 ?l_15 ?c_15 ?k_15 ?a_16 ?l_16 ?c_16 ?k_16 ?a_17 ?l_17 ?c_17 ?k_17 ?a_18 ?l_18 ?c_18 ?k_18 ?a_19 ?l_19 ?c_19 ?k_19 ?a_20 ?l_20 ?c_20 ?k_20 ?a_21 ?l_21 ?c_21 ?k_21 ?a_22 ?l_22 ?c_22 ?k_22 ?a_23 ?l_23 ?c_23 ?k_23 ?a_24 ?l_24 ?c_24 ?k_24 ?a_25 ?l_25 ?c_25 ?k_25 ?a_26 ?l_26 ?c_26 ?k_26 ?a_27 ?l_27 ?c_27 ?k_27 ?a_28 ?l_28 ?c_28 ?k_28 ?xe_0
    (case z_len => k_is)
    (case z_min => k_is)
    (case z_int => k_is)
    (case z_bool => k_is)
    (case z_str => k_is)
    (case z_tuple => k_is)
    (case z_list => k_is)
    (case z_sorted => k_is)
    (case z_set => k_is)
    (case z_range => k_is)
    (case z_isinstance => k_is)
    (case z_repr => k_is)
    (case g_SMALL => k_is)
    (case g_FIGURES => k_is)
    (case g_SIGNS => k_is)
    (case g_MOST_SIGNS => k_is)
    (case g_LEAST_RING => k_is)
    (case xa_0 => k_is)
    (case xi_0 => k_is)
    (case xt_0 => k_is)
    (case xa_1 => k_is)
    (case xl_1 => k_is)
    (case xs_1 => k_is)
    (case xg_1 => k_is)
    (case xh_1 => k_is)
    (case xn_1 => k_is)
    (case ii_1 => k_is)
    (case it_1 => k_is)
    (case il_1 => k_is)
    (case ic_1 => k_is)
    (case ik_1 => k_is)
    (case xk_1 => k_is)
    (case xe_1 => k_is)
    (case xt_1 => k_is)
    (case xd_1 => k_is)
    (case xi_1 => k_is)
    (case xb_1 => k_is)
    (case xa_2 => k_is)
    (case xl_2 => k_is)
    (case xs_2 => k_is)
    (case xg_2 => k_is)
    (case xh_2 => k_is)
    (case xn_2 => k_is)
    (case ii_2 => k_is)
    (case it_2 => k_is)
    (case il_2 => k_is)
    (case ic_2 => k_is)
    (case ik_2 => k_is)
    (case xk_2 => k_is)
    (case xe_2 => k_is)
    (case xt_2 => k_is)
    (case xd_2 => k_is)
    (case xi_2 => k_is)
    (case xb_2 => k_is)
    (case xa_3 => k_is)
    (case xl_3 => k_is)
    (case xs_3 => k_is)
    (case xg_3 => k_is)
    (case xh_3 => k_is)
    (case xn_3 => k_is)
    (case ii_3 => k_is)
    (case it_3 => k_is)
    (case il_3 => k_is)
    (case ic_3 => k_is)
    (case ik_3 => k_is)
    (case xk_3 => k_is)
    (case xe_3 => k_is)
    (case xt_3 => k_is)
    (case xd_3 => k_is)
    (case xi_3 => k_is)
    (case xb_3 => k_is)
    (case xx_1_1 => k_is)
    (case xx_1_2 => k_is)
    (case xx_1_3 => k_is)
    (case xx_2_1 => k_is)
    (case xx_2_2 => k_is)
    (case xx_2_3 => k_is)
    (case xx_3_1 => k_is)
    (case xx_3_2 => k_is)
    (case xx_3_3 => k_is)
    (case a_0 => k_is)
    (case l_0 => k_is)
    (case c_0 => k_is)
    (case k_0 => k_is)
    (case a_1 => k_is)
    (case l_1 => k_is)
    (case c_1 => k_is)
    (case k_1 => k_is)
    (case a_2 => k_is)
    (case l_2 => k_is)
    (case c_2 => k_is)
    (case k_2 => k_is)
    (case a_3 => k_is)
    (case l_3 => k_is)
    (case c_3 => k_is)
    (case k_3 => k_is)
    (case a_4 => k_is)
    (case l_4 => k_is)
    (case c_4 => k_is)
    (case k_4 => k_is)
    (case a_5 => k_is)
    (case l_5 => k_is)
    (case c_5 => k_is)
    (case k_5 => k_is)
    (case a_6 => k_is)
    (case l_6 => k_is)
    (case c_6 => k_is)
    (case k_6 => k_is)
    (case a_7 => k_is)
    (case l_7 => k_is)
    (case c_7 => k_is)
    (case k_7 => k_is)
    (case a_8 => k_is)
    (case l_8 => k_is)
    (case c_8 => k_is)
    (case k_8 => k_is)
    (case a_9 => k_is)
    (case l_9 => k_is)
    (case c_9 => k_is)
    (case k_9 => k_is)
    (case a_10 => k_is)
    (case l_10 => k_is)
    (case c_10 => k_is)
    (case k_10 => k_is)
    (case a_11 => k_is)
    (case l_11 => k_is)
    (case c_11 => k_is)
    (case k_11 => k_is)
    (case a_12 => k_is)
    (case l_12 => k_is)
    (case c_12 => k_is)
    (case k_12 => k_is)
    (case a_13 => k_is)
    (case l_13 => k_is)
    (case c_13 => k_is)
    (case k_13 => k_is)
    (case a_14 => k_is)
    (case l_14 => k_is)
    (case c_14 => k_is)
    (case k_14 => k_is)
    (case a_15 => k_is)
    (case l_15 => k_is)
    (case c_15 => k_is)
    (case k_15 => k_is)
    (case a_16 => k_is)
    (case l_16 => k_is)
    (case c_16 => k_is)
    (case k_16 => k_is)
    (case a_17 => k_is)
    (case l_17 => k_is)
    (case c_17 => k_is)
    (case k_17 => k_is)
    (case a_18 => k_is)
    (case l_18 => k_is)
    (case c_18 => k_is)
    (case k_18 => k_is)
    (case a_19 => k_is)
    (case l_19 => k_is)
    (case c_19 => k_is)
    (case k_19 => k_is)
    (case a_20 => k_is)
    (case l_20 => k_is)
    (case c_20 => k_is)
    (case k_20 => k_is)
    (case a_21 => k_is)
    (case l_21 => k_is)
    (case c_21 => k_is)
    (case k_21 => k_is)
    (case a_22 => k_is)
    (case l_22 => k_is)
    (case c_22 => k_is)
    (case k_22 => k_is)
    (case a_23 => k_is)
    (case l_23 => k_is)
    (case c_23 => k_is)
    (case k_23 => k_is)
    (case a_24 => k_is)
    (case l_24 => k_is)
    (case c_24 => k_is)
    (case k_24 => k_is)
    (case a_25 => k_is)
    (case l_25 => k_is)
    (case c_25 => k_is)
    (case k_25 => k_is)
    (case a_26 => k_is)
    (case l_26 => k_is)
    (case c_26 => k_is)
    (case k_26 => k_is)
    (case a_27 => k_is)
    (case l_27 => k_is)
    (case c_27 => k_is)
    (case k_27 => k_is)
    (case a_28 => k_is)
    (case l_28 => k_is)
    (case c_28 => k_is)
    (case k_28 => k_is)
    (case xe_0 => k_is)
