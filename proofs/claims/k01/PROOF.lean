import PyProof.Rows.All
import Wide.All
import OpenK.AllK
import Wide.FinOn
import PySem.Challenge.RW_soontoogreat_k01_roots_powers_ceilings
import HandS.ForMost
import HandS.Exc
import HandS.ExcOwn
import HandS.WordsExc
import HandS.Defaults
import HandS.Wide
import HandS.Evl
import HandS.IsInst
import HandS.ExcInit
import HandS.ExcIs
import HandS.ExcField
import HandS.TryMany
import HandS.Small
import KE.KExcIs
import HandS.HeadHook1
import HandS.HeadHook2
import KE.KStateDown
import HandS.Head0
import HandS.Head1
import HandS.Head2
import HandS.HeadEnd
import HandS.WideBits

set_option Elab.async false
set_option linter.all false
set_option maxRecDepth 100000
set_option maxHeartbeats 4000000

/-! Sn: data trees instead of addresses: a state of slots and owned lists over a frozen part of the heap. -/
namespace Sn
open PySem L2
abbrev Ex := Evl.Ex
/-- data as trees -/
inductive D where
  | non
  | bl (b : Bool)
  | int (i : Int)
  | str (x : Str)
  | tup (xs : List D)
  | lst (xs : List D)
  | ty (n : String)
  | cls (a : Addr)
  | exc (a : Addr) (d : Option Addr) (fs : List (Str × D))
/-- what a name holds: data, or a list that may still change -/
inductive W where
  | dat (d : D)
  | at (l : Addr)
abbrev W.i (n : Int) : W := .dat (.int n)
abbrev W.b (n : Bool) : W := .dat (.bl n)
abbrev W.n : W := .dat .non
abbrev W.s (x : Str) : W := .dat (.str x)
mutual
inductive Dr (K : PySem.W.Frag) (G : Hp) : V → D → Prop
  | non : Dr K G .non .non
  | bl (b : Bool) : Dr K G (.bl b) (.bl b)
  | int (i : Int) : Dr K G (.int i) (.int i)
  | str (x : Str) : Dr K G (.str x) (.str x)
  | ty (n : String) : Dr K G (.ty n) (.ty n)
  | cls (a : Addr) : Dr K G (.ref a) (.cls a)
  | tup {a : Addr} {xs : List V} {ds : List D} : SqT K G a xs → DrA K G xs ds → Dr K G (.ref a) (.tup ds)
  | lst {a : Addr} {xs : List V} {ds : List D} : SqL K G a xs → DrA K G xs ds → Dr K G (.ref a) (.lst ds)
  | exc0 (a : Addr) : Dr K G (.ref a) (.exc a none [])
  | exc1 (a : Addr) {dd : Addr} {vfs : List (Str × V)} {fs : List (Str × D)} : G dd = some (.xd vfs) → DrF K G vfs fs → Dr K G (.ref a) (.exc a (some dd) fs)
inductive DrF (K : PySem.W.Frag) (G : Hp) : List (Str × V) → List (Str × D) → Prop
  | nil : DrF K G [] []
  | cons {x : Str} {v : V} {d : D} {vs : List (Str × V)} {ds : List (Str × D)} : Dr K G v d → DrF K G vs ds → DrF K G ((x, v) :: vs) ((x, d) :: ds)
inductive DrA (K : PySem.W.Frag) (G : Hp) : List V → List D → Prop
  | nil : DrA K G [] []
  | cons {v : V} {d : D} {vs : List V} {ds : List D} : Dr K G v d → DrA K G vs ds → DrA K G (v :: vs) (d :: ds)
end
section
variable {K : PySem.W.Frag} {G G' H H' : Hp}
mutual
theorem Dr.mono (e : Ex G G') : ∀ (d : D) (v : V), Dr K G v d → Dr K G' v d
  | .non, _, h => by cases h; exact .non
  | .bl _, _, h => by cases h; exact .bl _
  | .int _, _, h => by cases h; exact .int _
  | .str _, _, h => by cases h; exact .str _
  | .ty _, _, h => by cases h; exact .ty _
  | .cls _, _, h => by cases h; exact .cls _
  | .tup ds, _, h => by
    cases h with
    | tup hs ha => exact .tup (Evl.ex_t e hs) (DrA.mono e ds _ ha)
  | .lst ds, _, h => by
    cases h with
    | lst hs ha => exact .lst (Evl.ex_l e hs) (DrA.mono e ds _ ha)
  | .exc a d fs, _, h => by
    cases h with
    | exc0 => exact .exc0 a
    | exc1 _ h1 h2 => exact .exc1 a (e _ _ h1) (DrF.mono e fs _ h2)
theorem DrF.mono (e : Ex G G') : ∀ (ds : List (Str × D)) (vs : List (Str × V)), DrF K G vs ds → DrF K G' vs ds
  | [], _, h => by cases h; exact .nil
  | (x, d) :: ds, _, h => by
    cases h with
    | cons h1 h2 => exact .cons (Dr.mono e d _ h1) (DrF.mono e ds _ h2)
theorem DrA.mono (e : Ex G G') : ∀ (ds : List D) (vs : List V), DrA K G vs ds → DrA K G' vs ds
  | [], _, h => by cases h; exact .nil
  | d :: ds, _, h => by
    cases h with
    | cons h1 h2 => exact .cons (Dr.mono e d _ h1) (DrA.mono e ds _ h2)
end
theorem Dr.up {v : V} {d : D} (h : Dr K G v d) (e : Ex G G') : Dr K G' v d := Dr.mono e d v h
theorem DrA.up {v : List V} {d : List D} (h : DrA K G v d) (e : Ex G G') : DrA K G' v d := DrA.mono e d v h
theorem DrA.length : ∀ {vs : List V} {ds : List D}, DrA K G vs ds → vs.length = ds.length
  | _, _, .nil => rfl
  | _, _, .cons _ t => by rw [List.length_cons, List.length_cons, DrA.length t]
theorem DrA.get : ∀ {vs : List V} {ds : List D} {i : Nat} {d : D}, DrA K G vs ds → ds[i]? = some d → ∃ v, vs[i]? = some v ∧ Dr K G v d
  | _, _, _, _, .nil, e => by simp at e
  | _, _, 0, _, .cons r _, e => by simp at e; subst e; exact ⟨_, rfl, r⟩
  | _, _, i + 1, _, .cons _ t, e => by
    obtain ⟨v, h1, h2⟩ := DrA.get (i := i) t (by simpa using e)
    exact ⟨v, by simpa using h1, h2⟩
theorem DrA.get' : ∀ {vs : List V} {ds : List D} {i : Nat} {v : V}, DrA K G vs ds → vs[i]? = some v → ∃ d, ds[i]? = some d ∧ Dr K G v d
  | _, _, _, _, .nil, e => by simp at e
  | _, _, 0, _, .cons r _, e => by simp at e; subst e; exact ⟨_, rfl, r⟩
  | _, _, i + 1, _, .cons _ t, e => by
    obtain ⟨v, h1, h2⟩ := DrA.get' (i := i) t (by simpa using e)
    exact ⟨v, by simpa using h1, h2⟩
def Wr (K : PySem.W.Frag) (G : Hp) : V → W → Prop
  | v, .dat d => Dr K G v d
  | v, .at l => v = .ref l
abbrev WrA (K : PySem.W.Frag) (G : Hp) : List V → List W → Prop := Paired (Wr K G)
theorem Wr.up {v : V} {w : W} (h : Wr K G v w) (e : Ex G G') : Wr K G' v w := by
  cases w with
  | dat d => exact Dr.up h e
  | «at» l => exact h
theorem WrA.up {v : List V} {w : List W} (h : WrA K G v w) (e : Ex G G') : WrA K G' v w := Paired.mapP h fun _ _ z => z.up e
theorem WrA.get : ∀ {vs : List V} {ds : List W} {i : Nat} {d : W}, WrA K G vs ds → ds[i]? = some d → ∃ v, vs[i]? = some v ∧ Wr K G v d
  | _, _, _, _, .nil, e => by simp at e
  | _, _, 0, _, .cons r _, e => by simp at e; subst e; exact ⟨_, rfl, r⟩
  | _, _, i + 1, _, .cons _ t, e => by
    obtain ⟨v, h1, h2⟩ := WrA.get (i := i) t (by simpa using e)
    exact ⟨v, by simpa using h1, h2⟩
theorem WrA.set {v : V} {w : W} (r : Wr K G v w) : ∀ {vs : List V} {ws : List W} (i : Nat), WrA K G vs ws → WrA K G (vs.set i v) (ws.set i w)
  | _, _, _, .nil => .nil
  | _, _, 0, .cons _ t => .cons r t
  | _, _, i + 1, .cons q t => .cons q (WrA.set r i t)
theorem WrA.snoc {v : V} {w : W} (r : Wr K G v w) : ∀ {vs : List V} {ws : List W}, WrA K G vs ws → WrA K G (vs ++ [v]) (ws ++ [w])
  | _, _, .nil => .cons r .nil
  | _, _, .cons q t => .cons q (WrA.snoc r t)
theorem WrA.dropLast : ∀ {vs : List V} {ws : List W}, WrA K G vs ws → WrA K G vs.dropLast ws.dropLast
  | _, _, .nil => .nil
  | _, _, .cons q .nil => .nil
  | _, _, .cons q (.cons q2 t) => .cons q (WrA.dropLast (.cons q2 t))
theorem WrA.dats : ∀ {vs : List V} {ds : List D}, WrA K G vs (ds.map .dat) → DrA K G vs ds
  | [], [], _ => .nil
  | _ :: _, [], h => nomatch h
  | [], _ :: _, h => nomatch h
  | _ :: _, _ :: _, .cons r t => .cons r (WrA.dats t)
theorem DrA.ws : ∀ {vs : List V} {ds : List D}, DrA K G vs ds → WrA K G vs (ds.map .dat)
  | _, _, .nil => .nil
  | _, _, .cons r t => .cons r (DrA.ws t)
end
/-- what an owned object holds -/
inductive HC where
  | lst (ws : List W)
def HCr (K : PySem.W.Frag) (G : Hp) : HO → HC → Prop
  | .lst xs, .lst ws => WrA K G xs ws
  | _, _ => False
theorem HCr.up {K : PySem.W.Frag} {G G' : Hp} {o : HO} {c : HC} (h : HCr K G o c) (e : Ex G G') : HCr K G' o c := by
  cases c with
  | lst ws => cases o with
    | lst xs => exact WrA.up h e
    | _ => cases h
theorem HCr.lst {K : PySem.W.Frag} {G : Hp} {o : HO} {ws : List W} (h : HCr K G o (.lst ws)) : ∃ xs, o = .lst xs ∧ WrA K G xs ws := by
  cases o with
  | lst xs => exact ⟨xs, rfl, h⟩
  | _ => cases h
abbrev Mu := List (Addr × HC)
abbrev Mu.ad (μ : Mu) : List Addr := μ.map (·.1)
/-- G is frozen within H; the owned objects stand in H, outside of G -/
structure Hold (K : PySem.W.Frag) (G H : Hp) (μ : Mu) : Prop where
  gh : Ex G H
  nd : μ.ad.Nodup
  at_ : ∀ p ∈ μ, G p.1 = none ∧ ∃ o, H p.1 = some o ∧ HCr K G o p.2
/-- from (μ0, G0, H0) to (G, H, μ) -/
structure Since (μ0 : Mu) (G0 H0 G H : Hp) (μ : Mu) : Prop where
  gg : Ex G0 G
  keep : ∀ a o, H0 a = some o → a ∉ μ0.ad → H a = some o
  there : ∀ a, H0 a ≠ none → H a ≠ none
  new : ∀ a, H0 a ≠ none → G a = G0 a
  own : ∀ p ∈ μ, p.1 ∈ μ0.ad ∨ H0 p.1 = none
theorem Since.refl (μ : Mu) (G H : Hp) : Since μ G H G H μ := ⟨Evl.Ex.refl G, fun _ _ h _ => h, fun _ h => h, fun _ _ => rfl, fun p hp => .inl (List.mem_map_of_mem hp)⟩
theorem Since.trans {μ0 μ1 μ2 : Mu} {G0 H0 G1 H1 G2 H2 : Hp} (a : Since μ0 G0 H0 G1 H1 μ1) (b : Since μ1 G1 H1 G2 H2 μ2) : Since μ0 G0 H0 G2 H2 μ2 where
  gg := a.gg.trans b.gg
  keep := fun x o h n => by
    have h1 := a.keep x o h n
    refine b.keep x o h1 fun m => ?_
    obtain ⟨p, hp, e⟩ := List.mem_map.mp m
    rcases a.own p hp with z | z
    · rw [e] at z; exact n z
    · rw [e, h] at z; cases z
  there := fun x h => b.there x (a.there x h)
  new := fun x h => (b.new x (a.there x h)).trans (a.new x h)
  own := fun p hp => by
    rcases b.own p hp with z | z
    · obtain ⟨q, hq, e⟩ := List.mem_map.mp z
      have := a.own q hq
      rw [e] at this
      exact this
    · right
      cases q : H0 p.1 with
      | none => rfl
      | some o => exact absurd z (a.there p.1 (by rw [q]; simp))
abbrev Ep := List (Option W)
/-- what stands around: the written part, what is wished of an exception, what is promised of it -/
structure En where
  K : PySem.W.Frag
  W : WX
  χ : Ep → Value → List (Str × D) → Mu → Prop
structure Slots (K : PySem.W.Frag) (G : Hp) (σ : L2.St) (ε : Ep) : Prop where
  len : σ.length = ε.length
  at_ : ∀ (i : Nat) (w : W), ε[i]? = some (some w) → ∃ v, σ[i]? = some (some v) ∧ Wr K G v w
theorem Slots.up {K : PySem.W.Frag} {G G' : Hp} {σ : L2.St} {ε : Ep} (h : Slots K G σ ε) (e : Ex G G') : Slots K G' σ ε := ⟨h.len, fun i w hw => let ⟨v, h1, h2⟩ := h.at_ i w hw; ⟨v, h1, h2.up e⟩⟩
theorem Slots.set {K : PySem.W.Frag} {G : Hp} {σ : L2.St} {ε : Ep} {v : V} {w : W} (h : Slots K G σ ε) (i : Nat) (r : Wr K G v w) : Slots K G (σ.set i (some v)) (ε.set i (some w)) := by
  refine ⟨by rw [List.length_set, List.length_set, h.len], fun j u hu => ?_⟩
  by_cases hj : i = j
  · subst hj
    rw [List.getElem?_set] at hu ⊢
    rw [if_pos rfl] at hu ⊢
    by_cases hl : i < ε.length
    · rw [if_pos hl] at hu
      rw [if_pos (by rw [h.len]; exact hl)]
      cases hu
      exact ⟨v, rfl, r⟩
    · rw [if_neg hl] at hu
      cases hu
  · rw [List.getElem?_set_ne hj] at hu ⊢
    exact h.at_ j u hu
theorem Slots.unset {K : PySem.W.Frag} {G : Hp} {σ : L2.St} {ε : Ep} (h : Slots K G σ ε) (i : Nat) : Slots K G (σ.set i none) (ε.set i none) := by
  refine ⟨by rw [List.length_set, List.length_set, h.len], fun j u hu => ?_⟩
  by_cases hj : i = j
  · subst hj
    rw [List.getElem?_set, if_pos rfl] at hu
    split at hu <;> cases hu
  · rw [List.getElem?_set_ne hj] at hu ⊢
    exact h.at_ j u hu
structure St (K : PySem.W.Frag) (σ : L2.St) (ε : Ep) (G H : Hp) (μ : Mu) : Prop where
  hold : Hold K G H μ
  slots : Slots K G σ ε
/-- the same slots later -/
theorem St.to {K : PySem.W.Frag} {σ : L2.St} {ε : Ep} {G H G' H' : Hp} {μ μ' : Mu} (C : St K σ ε G H μ) (h : Hold K G' H' μ') (s : Since μ G H G' H' μ') : St K σ ε G' H' μ' := ⟨h, C.slots.up s.gg⟩
/-- the own dict of an exception and its fields; the dict is newer than H0 -/
def ExAt (K : PySem.W.Frag) (H0 G H : Hp) (d : Option Addr) (fs : List (Str × D)) : Prop :=
  (d = none ∧ fs = []) ∨ ∃ dd vfs, d = some dd ∧ H0 dd = none ∧ H dd = some (.xd vfs) ∧ DrF K G vfs fs
theorem ExAt.back {K : PySem.W.Frag} {μ μ1 : Mu} {G0 H0 G1 H1 G H : Hp} {d : Option Addr} {fs : List (Str × D)} (s : Since μ G0 H0 G1 H1 μ1) (h : ExAt K H1 G H d fs) : ExAt K H0 G H d fs := by
  rcases h with h | ⟨dd, vfs, h1, h2, h3⟩
  · exact .inl h
  · refine .inr ⟨dd, vfs, h1, ?_, h3⟩
    cases q : H0 dd with
    | none => rfl
    | some o => exact absurd h2 (s.there dd (by rw [q]; simp))
/-- the wish is met by what is promised, from here on -/
def XOk (E : En) (μ : Mu) (G H : Hp) : Prop := ∀ σ ε G' H' μ' cls d fs, St E.K σ ε G' H' μ' → Since μ G H G' H' μ' → ExAt E.K H G' H' d fs → E.χ ε cls fs μ' → E.W cls d σ H'
theorem XOk.to {E : En} {μ μ1 : Mu} {G H G1 H1 : Hp} (x : XOk E μ G H) (s : Since μ G H G1 H1 μ1) : XOk E μ1 G1 H1 := fun σ ε G' H' μ' cls d fs S s' e c => x σ ε G' H' μ' cls d fs S (s.trans s') (e.back s) c
/-! ### readings at the level of data -/
/-- an expression of the value w that leaves all as it is -/
def VE (E : En) (te : TE) (ε : Ep) (μ : Mu) (w : W) : Prop := ∀ σ G H, St E.K σ ε G H μ → ∀ Q : VK, (∀ v, Wr E.K G v w → Q v H) → te σ H Q
/-- a test likewise -/
def VT (E : En) (tt : TT) (ε : Ep) (μ : Mu) (b : Bool) : Prop := ∀ σ G H, St E.K σ ε G H μ → ∀ Q : Bool → Hp → Prop, Q b H → tt σ H Q
def VA (E : En) (ta : TA) (ε : Ep) (μ : Mu) (ws : List W) : Prop := ∀ σ G H, St E.K σ ε G H μ → ∀ Q : List V → Hp → Prop, (∀ vs, WrA E.K G vs ws → Q vs H) → ta σ H Q
/-- an operation on values that are there, a call on values -/
def VO (E : En) (r : R2) (w1 w2 : W) (μ : Mu) (w : W) : Prop := ∀ G H, Hold E.K G H μ → ∀ v1 v2, Wr E.K G v1 w1 → Wr E.K G v2 w2 → ∀ Q : VK, (∀ v, Wr E.K G v w → Q v H) → r v1 v2 H Q
def VC (E : En) (r : List V → Hp → VK → Prop) (ws : List W) (μ : Mu) (w : W) : Prop := ∀ G H, Hold E.K G H μ → ∀ vs, WrA E.K G vs ws → ∀ Q : VK, (∀ v, Wr E.K G v w → Q v H) → r vs H Q
/-- in general: it may lay objects, change the owned ones, raise -/
def RE (E : En) (te : TE) (ε : Ep) (μ : Mu) (Ψ : W → Mu → Prop) : Prop := ∀ σ G H, St E.K σ ε G H μ → XOk E μ G H → ∀ Q : VK, (∀ v w G' H' μ', Hold E.K G' H' μ' → Since μ G H G' H' μ' → Wr E.K G' v w → Ψ w μ' → Q v H') → te σ H Q
def RT (E : En) (tt : TT) (ε : Ep) (μ : Mu) (Ψ : Bool → Mu → Prop) : Prop := ∀ σ G H, St E.K σ ε G H μ → XOk E μ G H → ∀ Q : Bool → Hp → Prop, (∀ b G' H' μ', Hold E.K G' H' μ' → Since μ G H G' H' μ' → Ψ b μ' → Q b H') → tt σ H Q
def RA (E : En) (ta : TA) (ε : Ep) (μ : Mu) (Ψ : List W → Mu → Prop) : Prop := ∀ σ G H, St E.K σ ε G H μ → XOk E μ G H → ∀ Q : List V → Hp → Prop, (∀ vs ws G' H' μ', Hold E.K G' H' μ' → Since μ G H G' H' μ' → WrA E.K G' vs ws → Ψ ws μ' → Q vs H') → ta σ H Q
def RO (E : En) (r : R2) (w1 w2 : W) (μ : Mu) (Ψ : W → Mu → Prop) : Prop := ∀ G H, Hold E.K G H μ → ∀ v1 v2, Wr E.K G v1 w1 → Wr E.K G v2 w2 → ∀ Q : VK, (∀ v w G' H' μ', Hold E.K G' H' μ' → Since μ G H G' H' μ' → Wr E.K G' v w → Ψ w μ' → Q v H') → r v1 v2 H Q
def RC (E : En) (r : List V → Hp → VK → Prop) (ws : List W) (μ : Mu) (Ψ : W → Mu → Prop) : Prop := ∀ G H, Hold E.K G H μ → ∀ vs, WrA E.K G vs ws → ∀ Q : VK, (∀ v w G' H' μ', Hold E.K G' H' μ' → Since μ G H G' H' μ' → Wr E.K G' v w → Ψ w μ' → Q v H') → r vs H Q
/-- what is wanted behind a statement -/
structure Fi where
  nx : Ep → Mu → Prop
  rt : W → Mu → Prop
  bk : Ep → Mu → Prop := fun _ _ => False
  ct : Ep → Mu → Prop := fun _ _ => False
structure Ties (E : En) (μ : Mu) (G H : Hp) (Φ : Fi) (D : Ends) : Prop where
  nx : ∀ σ' ε' G' H' μ', St E.K σ' ε' G' H' μ' → Since μ G H G' H' μ' → Φ.nx ε' μ' → D.nx σ' H'
  rt : ∀ v w G' H' μ', Hold E.K G' H' μ' → Since μ G H G' H' μ' → Wr E.K G' v w → Φ.rt w μ' → D.rt v H'
  bk : ∀ σ' ε' G' H' μ', St E.K σ' ε' G' H' μ' → Since μ G H G' H' μ' → Φ.bk ε' μ' → D.bk σ' H'
  ct : ∀ σ' ε' G' H' μ', St E.K σ' ε' G' H' μ' → Since μ G H G' H' μ' → Φ.ct ε' μ' → D.ct σ' H'
theorem Ties.to {E : En} {μ μ1 : Mu} {G H G1 H1 : Hp} {Φ : Fi} {D : Ends} (t : Ties E μ G H Φ D) (s : Since μ G H G1 H1 μ1) : Ties E μ1 G1 H1 Φ D :=
  ⟨fun σ' ε' G' H' μ' S s' => t.nx σ' ε' G' H' μ' S (s.trans s'), fun v w G' H' μ' S s' => t.rt v w G' H' μ' S (s.trans s'), fun σ' ε' G' H' μ' S s' => t.bk σ' ε' G' H' μ' S (s.trans s'), fun σ' ε' G' H' μ' S s' => t.ct σ' ε' G' H' μ' S (s.trans s')⟩
def RS (E : En) (ts : TS) (ε : Ep) (μ : Mu) (Φ : Fi) : Prop := ∀ σ G H, St E.K σ ε G H μ → XOk E μ G H → ∀ D : Ends, Ties E μ G H Φ D → ts D σ H
def RG (E : En) (g : TG) (w : W) (ε : Ep) (μ : Mu) (Ψ : Ep → Mu → Prop) : Prop := ∀ σ G H, St E.K σ ε G H μ → ∀ v, Wr E.K G v w → ∀ Q : L2.St → Hp → Prop, (∀ σ' ε' G' H' μ', St E.K σ' ε' G' H' μ' → Since μ G H G' H' μ' → Ψ ε' μ' → Q σ' H') → g v σ H Q
def RGs (E : En) (g : TGs) (ws : List W) (ε : Ep) (μ : Mu) (Ψ : Ep → Mu → Prop) : Prop := ∀ σ G H, St E.K σ ε G H μ → ∀ vs, WrA E.K G vs ws → ∀ Q : L2.St → Hp → Prop, (∀ σ' ε' G' H' μ', St E.K σ' ε' G' H' μ' → Since μ G H G' H' μ' → Ψ ε' μ' → Q σ' H') → g vs σ H Q
section
variable {E : En} {te ta tb : TE} {tt t u : TT} {tA tr : TA} {ε : Ep} {μ : Mu} {w w1 w2 : W} {ws : List W} {b c : Bool} {r : R2} {Ψ : W → Mu → Prop}
/-! #### values -/
theorem ve_var {i : Nat} (h : ε[i]? = some (some w)) : VE E (tVar i) ε μ w := fun σ G H C Q q => by
  obtain ⟨v, h1, h2⟩ := C.slots.at_ i w h
  exact ⟨v, h1, q v h2⟩
theorem ve_int {i : Int} : VE E (tC (.int i)) ε μ (.i i) := fun _ _ _ _ _ q => q _ (.int i)
theorem ve_bl {i : Bool} : VE E (tC (.bl i)) ε μ (.b i) := fun _ _ _ _ _ q => q _ (.bl i)
theorem ve_str {i : Str} : VE E (tC (.str i)) ε μ (.s i) := fun _ _ _ _ _ q => q _ (.str i)
theorem ve_non : VE E (tC .non) ε μ .n := fun _ _ _ _ _ q => q _ .non
theorem ve_ty {n : String} : VE E (tC (.ty n)) ε μ (.dat (.ty n)) := fun _ _ _ _ _ q => q _ (.ty n)
theorem ve_op (ha : VE E ta ε μ w1) (hb : VE E tb ε μ w2) (hr : VO E r w1 w2 μ w) : VE E (tOp r ta tb) ε μ w := fun σ G H C Q q =>
  ha σ G H C _ fun v1 r1 => hb σ G H C _ fun v2 r2 => hr G H C.hold v1 v2 r1 r2 Q q
theorem ve_un {r : V → Hp → VK → Prop} (ha : VE E ta ε μ w1) (hr : VO E (fun x _ H Q => r x H Q) w1 .n μ w) : VE E (tUn r ta) ε μ w := fun σ G H C Q q =>
  ha σ G H C _ fun v1 r1 => hr G H C.hold v1 .non r1 .non Q q
theorem ve_cb {r : List V → Hp → VK → Prop} (ha : VA E tA ε μ ws) (hr : VC E r ws μ w) : VE E (tCB r tA) ε μ w := fun σ G H C Q q =>
  ha σ G H C _ fun vs rs => hr G H C.hold vs rs Q q
theorem va_nil : VA E tNil ε μ [] := fun _ _ _ _ _ q => q [] .nil
theorem va_cons (ha : VE E ta ε μ w) (hr : VA E tr ε μ ws) : VA E (tCons ta tr) ε μ (w :: ws) := fun σ G H C _ q =>
  ha σ G H C _ fun v r1 => hr σ G H C _ fun vs r2 => q _ (.cons r1 r2)
theorem ve_if {b : Bool} (h : VT E tt ε μ b) (h1 : b = true → VE E ta ε μ w) (h2 : b = false → VE E tb ε μ w) : VE E (tIf tt ta tb) ε μ w := fun σ G H C Q q => h σ G H C _ (by
  cases b with
  | true => exact h1 rfl σ G H C Q q
  | false => exact h2 rfl σ G H C Q q)
theorem ve_andV {a b : Bool} (h1 : VE E ta ε μ (.b a)) (h2 : a = true → VE E tb ε μ (.b b)) : VE E (tAndV ta tb) ε μ (.b (a && b)) := fun σ G H C Q q => h1 σ G H C _ fun v r => by
  cases r
  refine ⟨a, rfl, ?_⟩
  cases a with
  | true => exact h2 rfl σ G H C Q q
  | false => exact q _ (Dr.bl _)
theorem ve_orV {a b : Bool} (h1 : VE E ta ε μ (.b a)) (h2 : a = false → VE E tb ε μ (.b b)) : VE E (tOrV ta tb) ε μ (.b (a || b)) := fun σ G H C Q q => h1 σ G H C _ fun v r => by
  cases r
  refine ⟨a, rfl, ?_⟩
  cases a with
  | false => exact h2 rfl σ G H C Q q
  | true => exact q _ (Dr.bl _)
theorem ve_notV {a : Bool} (h1 : VE E ta ε μ (.b a)) : VE E (tNotV ta) ε μ (.b (!a)) := fun σ G H C Q q => h1 σ G H C _ fun v r => by
  cases r
  exact ⟨a, rfl, q _ (Dr.bl _)⟩
theorem ve_is {w' : W} (h : VE E te ε μ w) (e : w = w') : VE E te ε μ w' := e ▸ h
/-! #### tests -/
theorem vt_test (h : VE E te ε μ (.b b)) : VT E (tTest te) ε μ b := fun σ G H C Q q => h σ G H C _ fun v r => by cases r; exact ⟨b, rfl, q⟩
theorem vt_B (h : VE E te ε μ (.b b)) : VT E (tB te) ε μ b := fun σ G H C Q q => h σ G H C _ fun v r => by cases r; exact ⟨b, rfl, q⟩
theorem vt_and (h1 : VT E t ε μ b) (h2 : b = true → VT E u ε μ c) : VT E (tAnd t u) ε μ (b && c) := fun σ G H C Q q => h1 σ G H C _ (by
  cases b with
  | true => exact h2 rfl σ G H C Q q
  | false => exact q)
theorem vt_or (h1 : VT E t ε μ b) (h2 : b = false → VT E u ε μ c) : VT E (tOr t u) ε μ (b || c) := fun σ G H C Q q => h1 σ G H C _ (by
  cases b with
  | false => exact h2 rfl σ G H C Q q
  | true => exact q)
theorem vt_not (h1 : VT E t ε μ b) : VT E (tNot t) ε μ (!b) := fun σ G H C Q q => h1 σ G H C _ q
theorem vt_is (h : VT E t ε μ b) (e : b = c) : VT E t ε μ c := e ▸ h
/-! #### expressions in general -/
theorem re_v (h : VE E te ε μ w) (q : Ψ w μ) : RE E te ε μ Ψ := fun σ G H C _ Q k => h σ G H C Q fun v r => k v w G H μ C.hold (.refl μ G H) r q
theorem re_op (h : RE E ta ε μ fun w1 μ1 => RE E tb ε μ1 fun w2 μ2 => RO E r w1 w2 μ2 Ψ) : RE E (tOp r ta tb) ε μ Ψ := fun σ G H C X Q k =>
  h σ G H C X _ fun v1 w1 G1 H1 μ1 C1 e1 r1 h1 => h1 σ G1 H1 (C.to C1 e1) (X.to e1) _ fun v2 w2 G2 H2 μ2 C2 e2 r2 h2 => h2 G2 H2 C2 v1 v2 (r1.up e2.gg) r2 Q fun v w G3 H3 μ3 C3 e3 r3 q => k v w G3 H3 μ3 C3 ((e1.trans e2).trans e3) r3 q
theorem re_un {r : V → Hp → VK → Prop} (h : RE E ta ε μ fun w1 μ1 => RO E (fun x _ H Q => r x H Q) w1 .n μ1 Ψ) : RE E (tUn r ta) ε μ Ψ := fun σ G H C X Q k =>
  h σ G H C X _ fun v1 w1 G1 H1 μ1 C1 e1 r1 h1 => h1 G1 H1 C1 v1 .non r1 .non Q fun v w G3 H3 μ3 C3 e3 r3 q => k v w G3 H3 μ3 C3 (e1.trans e3) r3 q
theorem ro_v (h : VO E r w1 w2 μ w) (q : Ψ w μ) : RO E r w1 w2 μ Ψ := fun G H C v1 v2 r1 r2 Q k => h G H C v1 v2 r1 r2 Q fun v rv => k v w G H μ C (.refl μ G H) rv q
theorem rc_v {r : List V → Hp → VK → Prop} (h : VC E r ws μ w) (q : Ψ w μ) : RC E r ws μ Ψ := fun G H C vs rs Q k => h G H C vs rs Q fun v rv => k v w G H μ C (.refl μ G H) rv q
theorem re_cb {r : List V → Hp → VK → Prop} (h : RA E tA ε μ fun ws μ1 => RC E r ws μ1 Ψ) : RE E (tCB r tA) ε μ Ψ := fun σ G H C X Q k =>
  h σ G H C X _ fun vs ws G1 H1 μ1 C1 e1 r1 h1 => h1 G1 H1 C1 vs r1 Q fun v w G3 H3 μ3 C3 e3 r3 q => k v w G3 H3 μ3 C3 (e1.trans e3) r3 q
theorem ra_nil {Ψ : List W → Mu → Prop} (h : Ψ [] μ) : RA E tNil ε μ Ψ := fun σ G H C X Q k => k [] [] G H μ C.hold (.refl μ G H) .nil h
theorem ra_cons {Ψ : List W → Mu → Prop} (h : RE E ta ε μ fun w1 μ1 => RA E tr ε μ1 fun ws μ2 => Ψ (w1 :: ws) μ2) : RA E (tCons ta tr) ε μ Ψ := fun σ G H C X Q k =>
  h σ G H C X _ fun v1 w1 G1 H1 μ1 C1 e1 r1 h1 => h1 σ G1 H1 (C.to C1 e1) (X.to e1) _ fun vs ws G2 H2 μ2 C2 e2 r2 h2 => k _ _ G2 H2 μ2 C2 (e1.trans e2) (.cons (r1.up e2.gg) r2) h2
theorem ra_v {Ψ : List W → Mu → Prop} (h : VA E tA ε μ ws) (q : Ψ ws μ) : RA E tA ε μ Ψ := fun σ G H C X Q k => h σ G H C Q fun vs r => k vs ws G H μ C.hold (.refl μ G H) r q
theorem rt_v {Ψ : Bool → Mu → Prop} (h : VT E tt ε μ b) (q : Ψ b μ) : RT E tt ε μ Ψ := fun σ G H C X Q k => h σ G H C Q (k b G H μ C.hold (.refl μ G H) q)
def TB (w : W) (μ : Mu) (Ψ : Bool → Mu → Prop) : Prop := ∃ b, w = .b b ∧ Ψ b μ
theorem tb_b {Ψ : Bool → Mu → Prop} (h : Ψ b μ) : TB (.b b) μ Ψ := ⟨b, rfl, h⟩
theorem rt_test {Ψ : Bool → Mu → Prop} (h : RE E te ε μ fun w μ1 => TB w μ1 Ψ) : RT E (tTest te) ε μ Ψ := fun σ G H C X Q k =>
  h σ G H C X _ fun v w G1 H1 μ1 C1 e1 r1 h1 => by
    obtain ⟨b, rfl, h1⟩ := h1
    cases r1
    exact ⟨b, rfl, k b G1 H1 μ1 C1 e1 h1⟩
theorem rt_B {Ψ : Bool → Mu → Prop} (h : RE E te ε μ fun w μ1 => TB w μ1 Ψ) : RT E (tB te) ε μ Ψ := fun σ G H C X Q k =>
  h σ G H C X _ fun v w G1 H1 μ1 C1 e1 r1 h1 => by
    obtain ⟨b, rfl, h1⟩ := h1
    cases r1
    exact ⟨b, rfl, k b G1 H1 μ1 C1 e1 h1⟩
theorem rt_not {Ψ : Bool → Mu → Prop} (h : RT E t ε μ fun b μ1 => Ψ (!b) μ1) : RT E (tNot t) ε μ Ψ := fun σ G H C X Q k => h σ G H C X _ fun b G1 H1 μ1 C1 e1 h1 => k (!b) G1 H1 μ1 C1 e1 h1
theorem rt_and {Ψ : Bool → Mu → Prop} (h : RT E t ε μ fun b μ1 => (b = true → RT E u ε μ1 Ψ) ∧ (b = false → Ψ false μ1)) : RT E (tAnd t u) ε μ Ψ := fun σ G H C X Q k => h σ G H C X _ fun b G1 H1 μ1 C1 e1 h1 => by
  cases b with
  | true => exact h1.1 rfl σ G1 H1 (C.to C1 e1) (X.to e1) Q fun b G2 H2 μ2 C2 e2 q => k b G2 H2 μ2 C2 (e1.trans e2) q
  | false => exact k false G1 H1 μ1 C1 e1 (h1.2 rfl)
theorem rt_or {Ψ : Bool → Mu → Prop} (h : RT E t ε μ fun b μ1 => (b = false → RT E u ε μ1 Ψ) ∧ (b = true → Ψ true μ1)) : RT E (tOr t u) ε μ Ψ := fun σ G H C X Q k => h σ G H C X _ fun b G1 H1 μ1 C1 e1 h1 => by
  cases b with
  | false => exact h1.1 rfl σ G1 H1 (C.to C1 e1) (X.to e1) Q fun b G2 H2 μ2 C2 e2 q => k b G2 H2 μ2 C2 (e1.trans e2) q
  | true => exact k true G1 H1 μ1 C1 e1 (h1.2 rfl)
theorem re_andV (h : RE E ta ε μ fun w μ1 => TB w μ1 fun b μ2 => (b = true → RE E tb ε μ2 Ψ) ∧ (b = false → Ψ (.b false) μ2)) : RE E (tAndV ta tb) ε μ Ψ := fun σ G H C X Q k => h σ G H C X _ fun v w G1 H1 μ1 C1 e1 r1 h1 => by
  obtain ⟨b, rfl, h1⟩ := h1
  cases r1
  refine ⟨b, rfl, ?_⟩
  cases b with
  | true => exact h1.1 rfl σ G1 H1 (C.to C1 e1) (X.to e1) Q fun v w G2 H2 μ2 C2 e2 r q => k v w G2 H2 μ2 C2 (e1.trans e2) r q
  | false => exact k _ (.b false) G1 H1 μ1 C1 e1 (Dr.bl _) (h1.2 rfl)
theorem re_orV (h : RE E ta ε μ fun w μ1 => TB w μ1 fun b μ2 => (b = false → RE E tb ε μ2 Ψ) ∧ (b = true → Ψ (.b true) μ2)) : RE E (tOrV ta tb) ε μ Ψ := fun σ G H C X Q k => h σ G H C X _ fun v w G1 H1 μ1 C1 e1 r1 h1 => by
  obtain ⟨b, rfl, h1⟩ := h1
  cases r1
  refine ⟨b, rfl, ?_⟩
  cases b with
  | false => exact h1.1 rfl σ G1 H1 (C.to C1 e1) (X.to e1) Q fun v w G2 H2 μ2 C2 e2 r q => k v w G2 H2 μ2 C2 (e1.trans e2) r q
  | true => exact k _ (.b true) G1 H1 μ1 C1 e1 (Dr.bl _) (h1.2 rfl)
theorem re_notV (h : RE E ta ε μ fun w μ1 => TB w μ1 fun b μ2 => Ψ (.b (!b)) μ2) : RE E (tNotV ta) ε μ Ψ := fun σ G H C X Q k => h σ G H C X _ fun v w G1 H1 μ1 C1 e1 r1 h1 => by
  obtain ⟨b, rfl, h1⟩ := h1
  cases r1
  exact ⟨b, rfl, k _ (.b (!b)) G1 H1 μ1 C1 e1 (Dr.bl _) h1⟩
theorem re_if (h : RT E tt ε μ fun b μ1 => (b = true → RE E ta ε μ1 Ψ) ∧ (b = false → RE E tb ε μ1 Ψ)) : RE E (tIf tt ta tb) ε μ Ψ := fun σ G H C X Q k => h σ G H C X _ fun b G1 H1 μ1 C1 e1 h1 => by
  cases b with
  | true => exact h1.1 rfl σ G1 H1 (C.to C1 e1) (X.to e1) Q fun v w G2 H2 μ2 C2 e2 r q => k v w G2 H2 μ2 C2 (e1.trans e2) r q
  | false => exact h1.2 rfl σ G1 H1 (C.to C1 e1) (X.to e1) Q fun v w G2 H2 μ2 C2 e2 r q => k v w G2 H2 μ2 C2 (e1.trans e2) r q
theorem re_mono {Ψ' : W → Mu → Prop} (h : RE E te ε μ Ψ') (m : ∀ w μ', Ψ' w μ' → Ψ w μ') : RE E te ε μ Ψ := fun σ G H C X Q k => h σ G H C X Q fun v w G' H' μ' C' e r q => k v w G' H' μ' C' e r (m w μ' q)
theorem rs_mono {ts : TS} {Φ Φ' : Fi} (h : RS E ts ε μ Φ') (nx : ∀ ε μ, Φ'.nx ε μ → Φ.nx ε μ) (rt : ∀ w μ, Φ'.rt w μ → Φ.rt w μ) (bk : ∀ ε μ, Φ'.bk ε μ → Φ.bk ε μ) (ct : ∀ ε μ, Φ'.ct ε μ → Φ.ct ε μ) : RS E ts ε μ Φ := fun σ G H C X D T =>
  h σ G H C X D ⟨fun σ' ε' G' H' μ' S s q => T.nx σ' ε' G' H' μ' S s (nx ε' μ' q), fun v w G' H' μ' S s r q => T.rt v w G' H' μ' S s r (rt w μ' q), fun σ' ε' G' H' μ' S s q => T.bk σ' ε' G' H' μ' S s (bk ε' μ' q), fun σ' ε' G' H' μ' S s q => T.ct σ' ε' G' H' μ' S s (ct ε' μ' q)⟩
end
/-- two ways by a decided proposition -/
theorem br {P : Prop} [Decidable P] {A B : Prop} (h1 : P → A) (h2 : ¬ P → B) : (decide P = true → A) ∧ (decide P = false → B) := ⟨fun h => h1 (of_decide_eq_true h), fun h => h2 (of_decide_eq_false h)⟩
theorem brn {P : Prop} [Decidable P] {A B : Prop} (h1 : ¬ P → A) (h2 : P → B) : ((!decide P) = true → A) ∧ ((!decide P) = false → B) := ⟨fun h => h1 (by simpa using h), fun h => h2 (by simpa using h)⟩
end Sn

/-! Sn, second part: operations, statements, loops, calls, a def's rule. -/
namespace Sn
open PySem PySem.Spec PyProof.Rows L2
/-! ### the state changed -/
section
variable {K : PySem.W.Frag} {G H : Hp} {μ : Mu} {σ : L2.St} {ε : Ep} {l p : Addr} {c c' : HC} {o : HO} {k : Nat}
theorem Hold.ne (S : Hold K G H μ) {q : Addr × HC} (hq : q ∈ μ) (hp : H p = none) : q.1 ≠ p := fun e => by
  obtain ⟨_, o, ho, _⟩ := S.at_ q hq
  rw [e, hp] at ho; cases ho
theorem Hold.gnone (S : Hold K G H μ) (hp : H p = none) : G p = none := by
  cases q : G p with
  | none => rfl
  | some o => rw [S.gh p o q] at hp; cases hp
theorem ex_upd {A B : Hp} {o : HO} (e : Ex A B) : Ex (upd A p o) (upd B p o) := fun b u hb => by
  by_cases h : b = p
  · subst h; rw [upd_same] at hb ⊢; exact hb
  · rw [upd_ne h] at hb ⊢; exact e b u hb
theorem ex_new {A : Hp} {o : HO} (h : A p = none) : Ex A (upd A p o) := Evl.Ex.new h
/-- a new owned object -/
theorem Hold.newO (S : Hold K G H μ) (hp : H p = none) (hc : HCr K G o c) : Hold K G (upd H p o) ((p, c) :: μ) where
  gh := S.gh.trans (ex_new hp)
  nd := by
    show (p :: μ.ad).Nodup
    refine List.nodup_cons.mpr ⟨fun m => ?_, S.nd⟩
    obtain ⟨q, hq, e⟩ := List.mem_map.mp m
    exact S.ne hq hp e
  at_ := fun q hq => by
    rcases List.mem_cons.mp hq with rfl | hq
    · exact ⟨S.gnone hp, o, upd_same, hc⟩
    · obtain ⟨h1, u, h2, h3⟩ := S.at_ q hq
      exact ⟨h1, u, by rw [upd_ne (S.ne hq hp)]; exact h2, h3⟩
theorem Since.newO (S : Hold K G H μ) (hp : H p = none) : Since μ G H G (upd H p o) ((p, c) :: μ) where
  gg := Evl.Ex.refl G
  keep := fun a u h _ => by rw [upd_ne (ne_of_none h hp)]; exact h
  there := fun a h => by
    by_cases e : a = p
    · subst e; rw [upd_same]; simp
    · rw [upd_ne e]; exact h
  new := fun _ _ => rfl
  own := fun q hq => by
    rcases List.mem_cons.mp hq with rfl | hq
    · exact .inr hp
    · exact .inl (List.mem_map_of_mem hq)
/-- a new frozen object -/
theorem Hold.newF (S : Hold K G H μ) (hp : H p = none) : Hold K (upd G p o) (upd H p o) μ where
  gh := ex_upd S.gh
  nd := S.nd
  at_ := fun q hq => by
    obtain ⟨h1, u, h2, h3⟩ := S.at_ q hq
    have n := S.ne hq hp
    exact ⟨by rw [upd_ne n]; exact h1, u, by rw [upd_ne n]; exact h2, h3.up (ex_new (S.gnone hp))⟩
theorem Since.newF (S : Hold K G H μ) (hp : H p = none) : Since μ G H (upd G p o) (upd H p o) μ where
  gg := ex_new (S.gnone hp)
  keep := fun a u h _ => by rw [upd_ne (ne_of_none h hp)]; exact h
  there := fun a h => by
    by_cases e : a = p
    · subst e; rw [upd_same]; simp
    · rw [upd_ne e]; exact h
  new := fun a h => upd_ne (fun e => h (by rw [e]; exact hp))
  own := fun q hq => .inl (List.mem_map_of_mem hq)
theorem mu_mem (h : μ[k]? = some (l, c)) : (l, c) ∈ μ := List.mem_of_getElem? h
theorem Hold.own (S : Hold K G H μ) (h : μ[k]? = some (l, c)) : G l = none ∧ ∃ o, H l = some o ∧ HCr K G o c := S.at_ _ (mu_mem h)
theorem Hold.lst (S : Hold K G H μ) {ws : List W} (h : μ[k]? = some (l, .lst ws)) : G l = none ∧ ∃ xs, H l = some (.lst xs) ∧ WrA K G xs ws := by
  obtain ⟨h1, o, h2, h3⟩ := S.own h
  obtain ⟨xs, rfl, h4⟩ := h3.lst
  exact ⟨h1, xs, h2, h4⟩
theorem ad_set (h : μ[k]? = some (l, c)) : (μ.set k (l, c')).map (·.1) = μ.ad := by
  apply List.ext_getElem?
  intro i
  show ((μ.set k (l, c')).map (·.1))[i]? = (μ.map (·.1))[i]?
  rw [List.getElem?_map, List.getElem?_map, List.getElem?_set]
  split
  · rename_i e
    subst e
    split
    · rw [h]; rfl
    · rename_i hl
      rw [List.getElem?_eq_none (by omega)]
  · rfl
/-- an owned object written -/
theorem Hold.write (S : Hold K G H μ) (h : μ[k]? = some (l, c)) (hc : HCr K G o c') : Hold K G (upd H l o) (μ.set k (l, c')) where
  gh := fun a u ha => by
    have n : a ≠ l := fun e => by rw [e, (S.own h).1] at ha; cases ha
    rw [upd_ne n]; exact S.gh a u ha
  nd := by
    show ((μ.set k (l, c')).map (·.1)).Nodup
    rw [ad_set h]; exact S.nd
  at_ := fun q hq => by
    by_cases e : q.1 = l
    · obtain ⟨i, hi⟩ := List.mem_iff_getElem?.mp hq
      have nd := S.nd
      by_cases hik : i = k
      · subst hik
        rw [List.getElem?_set, if_pos rfl] at hi
        split at hi
        · cases hi
          exact ⟨(S.own h).1, o, upd_same, hc⟩
        · cases hi
      · rw [List.getElem?_set_ne (Ne.symm hik)] at hi
        have h1 : μ.ad[i]? = some l := by show (μ.map (·.1))[i]? = _; rw [List.getElem?_map, hi]; exact congrArg some e
        have h2 : μ.ad[k]? = some l := by show (μ.map (·.1))[k]? = _; rw [List.getElem?_map, h]; rfl
        obtain ⟨l1, e1⟩ := List.getElem?_eq_some_iff.mp h1
        obtain ⟨l2, e2⟩ := List.getElem?_eq_some_iff.mp h2
        exact absurd ((List.getElem_inj nd).mp (e1.trans e2.symm)) hik
    · have hq' : q ∈ μ := by
        rcases List.mem_or_eq_of_mem_set hq with z | z
        · exact z
        · rw [z] at e; exact absurd rfl e
      obtain ⟨h1, u, h2, h3⟩ := S.at_ q hq'
      exact ⟨h1, u, by rw [upd_ne e]; exact h2, h3⟩
theorem Since.write (S : Hold K G H μ) (h : μ[k]? = some (l, c)) : Since μ G H G (upd H l o) (μ.set k (l, c')) where
  gg := Evl.Ex.refl G
  keep := fun a u ha n => by
    rw [upd_ne (fun e => n (by rw [e]; exact List.mem_map_of_mem (mu_mem h)))]; exact ha
  there := fun a ha => by
    by_cases e : a = l
    · subst e; rw [upd_same]; simp
    · rw [upd_ne e]; exact ha
  new := fun _ _ => rfl
  own := fun q hq => by
    left
    have m : q.1 ∈ (μ.set k (l, c')).map (·.1) := List.mem_map_of_mem hq
    rw [ad_set h] at m; exact m
/-- an owned list is given to the frozen part -/
theorem Hold.frz (S : Hold K G H μ) (h : μ[k]? = some (l, c)) (ho : H l = some o) : Hold K (upd G l o) H (μ.eraseIdx k) where
  gh := fun a u ha => by
    by_cases e : a = l
    · subst e; rw [upd_same] at ha; rw [ho]; exact ha
    · rw [upd_ne e] at ha; exact S.gh a u ha
  nd := by
    show ((μ.eraseIdx k).map (·.1)).Nodup
    exact S.nd.sublist ((List.eraseIdx_sublist μ k).map _)
  at_ := fun q hq => by
    have hq' : q ∈ μ := List.mem_of_mem_eraseIdx hq
    have n : q.1 ≠ l := fun e => by
      obtain ⟨i, hik, hi⟩ := List.mem_eraseIdx_iff_getElem?.mp hq
      have h1 : μ.ad[i]? = some l := by show (μ.map (·.1))[i]? = _; rw [List.getElem?_map, hi]; exact congrArg some e
      have h2 : μ.ad[k]? = some l := by show (μ.map (·.1))[k]? = _; rw [List.getElem?_map, h]; rfl
      obtain ⟨l1, e1⟩ := List.getElem?_eq_some_iff.mp h1
      obtain ⟨l2, e2⟩ := List.getElem?_eq_some_iff.mp h2
      exact hik ((List.getElem_inj S.nd).mp (e1.trans e2.symm))
    obtain ⟨h1, u, h2, h3⟩ := S.at_ q hq'
    exact ⟨by rw [upd_ne n]; exact h1, u, h2, h3.up (ex_new (S.own h).1)⟩
end
/-! ### frames: a callee sees the tail of the owned objects -/
theorem mem_ad {μ : Mu} {l : Addr} (h : l ∈ μ.ad) : ∃ c, (l, c) ∈ μ := by
  obtain ⟨q, hq, e⟩ := List.mem_map.mp h
  exact ⟨q.2, e ▸ hq⟩
theorem Hold.tail {K : PySem.W.Frag} {G H : Hp} {μ : Mu} (n : Nat) (S : Hold K G H μ) : Hold K G H (μ.drop n) :=
  ⟨S.gh, by show ((μ.drop n).map (·.1)).Nodup; exact S.nd.sublist ((List.drop_sublist n μ).map _), fun q hq => S.at_ q (List.mem_of_mem_drop hq)⟩
theorem take_not_drop {μ : Mu} (n : Nat) (nd : μ.ad.Nodup) {q : Addr × HC} (hq : q ∈ μ.take n) : q.1 ∉ (μ.drop n).map (·.1) := fun m => by
  have e : μ.ad = (μ.take n).map (·.1) ++ (μ.drop n).map (·.1) := by
    show μ.map (·.1) = _
    rw [← List.map_append, List.take_append_drop]
  rw [e] at nd
  exact (List.nodup_append.mp nd).2.2 _ (List.mem_map_of_mem hq) _ m rfl
theorem Hold.frame {K : PySem.W.Frag} {G H G' H' : Hp} {μ μ' : Mu} (n : Nat) (S : Hold K G H μ) (S' : Hold K G' H' μ') (s : Since (μ.drop n) G H G' H' μ') : Hold K G' H' (μ.take n ++ μ') where
  gh := S'.gh
  nd := by
    show ((μ.take n ++ μ').map (·.1)).Nodup
    rw [List.map_append]
    refine List.nodup_append.mpr ⟨by exact S.nd.sublist ((List.take_sublist n μ).map _), S'.nd, fun a ha b hb e => ?_⟩
    subst e
    obtain ⟨q, hq, e⟩ := List.mem_map.mp ha
    obtain ⟨r, hr, e2⟩ := List.mem_map.mp hb
    rcases s.own r hr with z | z
    · rw [e2, ← e] at z; exact take_not_drop n S.nd hq z
    · obtain ⟨_, o, ho, _⟩ := S.at_ q (List.mem_of_mem_take hq)
      rw [e2, ← e, ho] at z; cases z
  at_ := fun q hq => by
    rcases List.mem_append.mp hq with hq | hq
    · obtain ⟨h1, o, h2, h3⟩ := S.at_ q (List.mem_of_mem_take hq)
      exact ⟨(s.new q.1 (by rw [h2]; simp)).trans h1, o, s.keep q.1 o h2 (take_not_drop n S.nd hq), h3.up s.gg⟩
    · exact S'.at_ q hq
theorem Since.frame {K : PySem.W.Frag} {G H G' H' : Hp} {μ μ' : Mu} (n : Nat) (s : Since (μ.drop n) G H G' H' μ') : Since μ G H G' H' (μ.take n ++ μ') where
  gg := s.gg
  keep := fun a o h m => s.keep a o h fun z => m (by
    obtain ⟨q, hq, e⟩ := List.mem_map.mp z
    exact e ▸ List.mem_map_of_mem (List.mem_of_mem_drop hq))
  there := s.there
  new := s.new
  own := fun q hq => by
    rcases List.mem_append.mp hq with hq | hq
    · exact .inl (List.mem_map_of_mem (List.mem_of_mem_take hq))
    · rcases s.own q hq with z | z
      · left
        obtain ⟨r, hr, e⟩ := List.mem_map.mp z
        exact e ▸ List.mem_map_of_mem (List.mem_of_mem_drop hr)
      · exact .inr z
/-! ### operations on ints, bools, texts -/
section
variable {E : En} {μ : Mu} {i j : Int} {x y : Str} {a b : Bool} {C : Int → Int → Prop}
theorem vo_I {f : Int → Int → Int} (hc : C i j) : VO E (rI C fun i j => .int (f i j)) (.i i) (.i j) μ (.i (f i j)) := fun G H S v1 v2 r1 r2 Q q => by
  cases r1; cases r2
  exact ⟨i, j, rfl, rfl, hc, q _ (Dr.int _)⟩
theorem vo_I0 {f : Int → Int → Int} : VO E (rI0 fun i j => .int (f i j)) (.i i) (.i j) μ (.i (f i j)) := fun G H S v1 v2 r1 r2 Q q => by
  cases r1; cases r2
  exact ⟨i, j, rfl, rfl, q _ (Dr.int _)⟩
theorem vo_B0 {f : Int → Int → Bool} : VO E (rI0 fun i j => .bl (f i j)) (.i i) (.i j) μ (.b (f i j)) := fun G H S v1 v2 r1 r2 Q q => by
  cases r1; cases r2
  exact ⟨i, j, rfl, rfl, q _ (Dr.bl _)⟩
theorem vo_eqI : VO E rEq (.i i) (.i j) μ (.b (decide (i = j))) := fun G H S v1 v2 r1 r2 Q q => by
  cases r1; cases r2
  refine ⟨rfl, ?_⟩
  have e : decide (V.int i = V.int j) = decide (i = j) := by simp
  rw [e]; exact q _ (Dr.bl _)
theorem vo_neI : VO E rNe (.i i) (.i j) μ (.b (!decide (i = j))) := fun G H S v1 v2 r1 r2 Q q => by
  cases r1; cases r2
  refine ⟨rfl, ?_⟩
  have e : decide (V.int i = V.int j) = decide (i = j) := by simp
  rw [e]; exact q _ (Dr.bl _)
theorem vo_eqS : VO E rEq (.s x) (.s y) μ (.b (decide (x = y))) := fun G H S v1 v2 r1 r2 Q q => by
  cases r1; cases r2
  refine ⟨rfl, ?_⟩
  have e : decide (V.str x = V.str y) = decide (x = y) := by simp
  rw [e]; exact q _ (Dr.bl _)
theorem vo_neS : VO E rNe (.s x) (.s y) μ (.b (!decide (x = y))) := fun G H S v1 v2 r1 r2 Q q => by
  cases r1; cases r2
  refine ⟨rfl, ?_⟩
  have e : decide (V.str x = V.str y) = decide (x = y) := by simp
  rw [e]; exact q _ (Dr.bl _)
theorem vo_eqB : VO E rEq (.b a) (.b b) μ (.b (decide (a = b))) := fun G H S v1 v2 r1 r2 Q q => by
  cases r1; cases r2
  refine ⟨rfl, ?_⟩
  have e : decide (V.bl a = V.bl b) = decide (a = b) := by simp
  rw [e]; exact q _ (Dr.bl _)
theorem vo_neB : VO E rNe (.b a) (.b b) μ (.b (!decide (a = b))) := fun G H S v1 v2 r1 r2 Q q => by
  cases r1; cases r2
  refine ⟨rfl, ?_⟩
  have e : decide (V.bl a = V.bl b) = decide (a = b) := by simp
  rw [e]; exact q _ (Dr.bl _)
theorem vo_neg : VO E (fun x _ H Q => rU (fun i => .int (-i)) x H Q) (.i i) .n μ (.i (-i)) := fun G H S v1 v2 r1 r2 Q q => by
  cases r1
  exact ⟨i, rfl, q _ (Dr.int _)⟩
/-- None or not -/
def D.isN : D → Bool
  | .non => true
  | _ => false
def W.isN : W → Bool
  | .dat d => d.isN
  | .at _ => false
theorem Wr.isN {K : PySem.W.Frag} {G : Hp} {v : V} {w : W} (r : Wr K G v w) : decide (v = .non) = w.isN := by
  cases w with
  | dat d =>
    cases r with
    | non => rfl
    | bl _ => rfl
    | int _ => rfl
    | str _ => rfl
    | ty _ => rfl
    | cls _ => rfl
    | tup _ _ => rfl
    | lst _ _ => rfl
    | exc0 _ => rfl
    | exc1 _ _ _ => rfl
  | «at» l => cases r; rfl
def rIsNon : R2 := fun x y H Q => y = .non ∧ Q (.bl (decide (x = .non))) H
def rNotNon : R2 := fun x y H Q => y = .non ∧ Q (.bl (!decide (x = .non))) H
theorem op_isNon {X : Cx} : OpR X (compareOp .Is) rIsNon := op_isN
theorem op_notNon {X : Cx} : OpR X (compareOp .IsNot) rNotNon := op_notN
theorem vo_isN {w : W} : VO E rIsNon w .n μ (.b w.isN) := fun G H S v1 v2 r1 r2 Q q => by
  cases r2
  refine ⟨rfl, ?_⟩
  rw [r1.isN]; exact q _ (Dr.bl _)
theorem vo_notN {w : W} : VO E rNotNon w .n μ (.b (!w.isN)) := fun G H S v1 v2 r1 r2 Q q => by
  cases r2
  refine ⟨rfl, ?_⟩
  rw [r1.isN]; exact q _ (Dr.bl _)
/-- // by any divisor that is not 0 and below 2 ^ 9000 -/
def CDivX (_ j : Int) : Prop := j ≠ 0 ∧ j.natAbs.log2 < 9000
theorem op_fdivX {X : Cx} : OpR X (binaryOp .FloorDiv) (rI CDivX fun i j => .int (i.fdiv j)) := opI fun _ _ _ _ _ _ _ hc q => PyProof.Rows.floordiv_int hc.1 q (.inl (PyProof.noPylong_of_log2 hc.2))
/-- ** where the base has at most 5000 bits and the exponent is at most 1000 -/
def CPowX (i j : Int) : Prop := 0 ≤ j ∧ j ≤ 20000 ∧ i.natAbs.log2 < 5000
theorem op_powX {X : Cx} : OpR X (binaryOp .Pow) (rI CPowX fun i j => .int (i ^ j.toNat)) := opI fun i j _ _ _ _ _ hc q => PyProof.Rows.pow_int hc.1 (by
  obtain ⟨h0, h1, h2⟩ := hc
  have b : Builtin.Int.intBits i ≤ i.natAbs.log2 + 1 := by
    unfold Builtin.Int.intBits
    split <;> omega
  have e1 : ((Builtin.Int.intBits i : Nat) : Int) ≤ 5000 := by omega
  have e2 : ((Builtin.Int.intBits i : Nat) : Int) * j ≤ 5000 * 20000 := Int.mul_le_mul e1 h1 h0 (by omega)
  exact Int.le_trans e2 (by decide)) q
end
/-! ### items -/
section
variable {E : En} {μ : Mu} {i : Int} {k : Nat} {ds : List D} {d : D} {ws : List W} {w : W} {l : Addr}
theorem ix_up {α β : Type} {xs : List α} {ys : List β} {R : α → β → Prop} (hl : xs.length = ys.length) (hg : ∀ (j : Nat) (y : β), ys[j]? = some y → ∃ x, xs[j]? = some x ∧ R x y) {y : β} (h : atI ys i = some y) : ∃ x, atI xs i = some x ∧ R x y := by
  unfold atI at h ⊢
  rw [hl]
  cases e : ixN ys.length i with
  | none => rw [e] at h; cases h
  | some j =>
    rw [e] at h
    exact hg j y h
theorem vo_ixT (h : atI ds i = some d) : VO E (rIx E.K) (.dat (.tup ds)) (.i i) μ (.dat d) := fun G H S v1 v2 r1 r2 Q q => by
  cases r2
  cases r1 with
  | tup hs ha =>
    obtain ⟨v, hv, rv⟩ := ix_up ha.length (fun j y e => ha.get e) h
    exact .inr (.inl ⟨_, _, i, v, rfl, rfl, Evl.ex_t S.gh hs, hv, q v rv⟩)
theorem vo_ixL (h : atI ds i = some d) : VO E (rIx E.K) (.dat (.lst ds)) (.i i) μ (.dat d) := fun G H S v1 v2 r1 r2 Q q => by
  cases r2
  cases r1 with
  | lst hs ha =>
    obtain ⟨v, hv, rv⟩ := ix_up ha.length (fun j y e => ha.get e) h
    exact .inl ⟨_, _, i, v, rfl, rfl, Evl.ex_l S.gh hs, hv, q v rv⟩
theorem vo_ixA (hk : μ[k]? = some (l, .lst ws)) (h : atI ws i = some w) : VO E (rIx E.K) (.at l) (.i i) μ w := fun G H S v1 v2 r1 r2 Q q => by
  cases r2
  cases r1
  obtain ⟨_, xs, hx, rx⟩ := S.lst hk
  obtain ⟨v, hv, rv⟩ := ix_up (Paired.length rx) (fun j y e => WrA.get rx e) h
  exact .inl ⟨l, xs, i, v, rfl, rfl, SqL.of hx, hv, q v rv⟩
theorem vo_ixA0 (hk : μ[0]? = some (l, .lst ws)) (h : atI ws i = some w) : VO E (rIx E.K) (.at l) (.i i) μ w := vo_ixA hk h
theorem vo_ixA1 (hk : μ[1]? = some (l, .lst ws)) (h : atI ws i = some w) : VO E (rIx E.K) (.at l) (.i i) μ w := vo_ixA hk h
theorem vo_ixA2 (hk : μ[2]? = some (l, .lst ws)) (h : atI ws i = some w) : VO E (rIx E.K) (.at l) (.i i) μ w := vo_ixA hk h
theorem atI_nat {α : Type} {xs : List α} {j : Nat} {x : α} (h : xs[j]? = some x) : atI xs (j : Int) = some x := by
  unfold atI
  have hl := (List.getElem?_eq_some_iff.mp h).1
  have e : ixN xs.length (j : Int) = some j := Evl.ixN_nat hl
  rw [e]; exact h
theorem atI_int {α : Type} {xs : List α} {i : Int} {x : α} (h0 : 0 ≤ i) (h : xs[i.toNat]? = some x) : atI xs i = some x := by
  have := atI_nat (j := i.toNat) h
  rwa [Int.toNat_of_nonneg h0] at this
end
/-! ### built-in calls -/
section
variable {E : En} {μ : Mu} {i j : Int} {k : Nat} {ds : List D} {d : D} {ws : List W} {w : W} {l : Addr}
def rAbs : List V → Hp → VK → Prop := fun xs H Q => ∃ i, xs = [.int i] ∧ Q (.int (if i < 0 then -i else i)) H
theorem cr_abs {X : Cx} : CallR X (.builtin "abs") rAbs := call_abs
theorem vc_abs : VC E rAbs [.i i] μ (.i (i.natAbs : Int)) := fun G H S vs rs Q q => by
  cases rs with
  | cons r t =>
    cases r; cases t
    refine ⟨i, rfl, ?_⟩
    have e : (if i < 0 then -i else i) = (i.natAbs : Int) := by split <;> omega
    rw [e]; exact q _ (Dr.int _)
def rMx2 : List V → Hp → VK → Prop := fun xs H Q => ∃ i j, xs = [.int i, .int j] ∧ Q (.int (if j > i then j else i)) H
theorem cr_max2 {X : Cx} (hc : X.calm = true) : CallR X (.builtin "max") rMx2 := call_max2 hc
theorem vc_max2 : VC E rMx2 [.i i, .i j] μ (.i (max i j)) := fun G H S vs rs Q q => by
  cases rs with
  | cons r t =>
    cases t with
    | cons r2 t =>
      cases r; cases r2; cases t
      refine ⟨i, j, rfl, ?_⟩
      have e : (if j > i then j else i) = max i j := by rw [Int.max_def]; split <;> split <;> omega
      rw [e]; exact q _ (Dr.int _)
def rMn2 : List V → Hp → VK → Prop := fun xs H Q => ∃ i j, xs = [.int i, .int j] ∧ Q (.int (if j < i then j else i)) H
theorem cr_min2 {X : Cx} (hc : X.calm = true) : CallR X (.builtin "min") rMn2 := call_min2 hc
theorem vc_min2 : VC E rMn2 [.i i, .i j] μ (.i (min i j)) := fun G H S vs rs Q q => by
  cases rs with
  | cons r t =>
    cases t with
    | cons r2 t =>
      cases r; cases r2; cases t
      refine ⟨i, j, rfl, ?_⟩
      have e : (if j < i then j else i) = min i j := by rw [Int.min_def]; split <;> split <;> omega
      rw [e]; exact q _ (Dr.int _)
def rInt1 : List V → Hp → VK → Prop := fun xs H Q => (∃ i, xs = [.int i] ∧ Q (.int i) H) ∨ ∃ k, xs = [.bl k] ∧ Q (.int (if k then 1 else 0)) H
theorem cr_int1 {X : Cx} : CallR X (.type "int") rInt1 := call_int1
theorem vc_int1 : VC E rInt1 [.i i] μ (.i i) := fun G H S vs rs Q q => by
  cases rs with
  | cons r t =>
    cases r; cases t
    exact .inl ⟨i, rfl, q _ (Dr.int _)⟩
def rLn (K : PySem.W.Frag) : List V → Hp → VK → Prop := fun xs H Q => ∃ x n, xs = [x] ∧ LenV K x H n ∧ Q (.int n) H
theorem cr_len {X : Cx} : CallR X (.builtin "len") (rLn X.K) := call_len
theorem vc_lenT : VC E (rLn E.K) [.dat (.tup ds)] μ (.i ds.length) := fun G H S vs rs Q q => by
  cases rs with
  | cons r t =>
    cases t
    cases r with
    | tup hs ha => exact ⟨_, ds.length, rfl, .inr ⟨_, Evl.ex_t S.gh hs, ha.length.symm⟩, q _ (Dr.int _)⟩
theorem vc_lenL : VC E (rLn E.K) [.dat (.lst ds)] μ (.i ds.length) := fun G H S vs rs Q q => by
  cases rs with
  | cons r t =>
    cases t
    cases r with
    | lst hs ha => exact ⟨_, ds.length, rfl, .inl ⟨_, Evl.ex_l S.gh hs, ha.length.symm⟩, q _ (Dr.int _)⟩
theorem vc_lenA (hk : μ[k]? = some (l, .lst ws)) : VC E (rLn E.K) [.at l] μ (.i ws.length) := fun G H S vs rs Q q => by
  cases rs with
  | cons r t =>
    cases t
    cases r
    obtain ⟨_, xs, hx, rx⟩ := S.lst hk
    exact ⟨_, ws.length, rfl, .inl ⟨xs, SqL.of hx, (Paired.length rx).symm⟩, q _ (Dr.int _)⟩
theorem vc_lenA0 (hk : μ[0]? = some (l, .lst ws)) : VC E (rLn E.K) [.at l] μ (.i ws.length) := vc_lenA hk
theorem vc_lenA1 (hk : μ[1]? = some (l, .lst ws)) : VC E (rLn E.K) [.at l] μ (.i ws.length) := vc_lenA hk
theorem vc_lenA2 (hk : μ[2]? = some (l, .lst ws)) : VC E (rLn E.K) [.at l] μ (.i ws.length) := vc_lenA hk
theorem vc_lenS {x : Str} (hz : x.length ≤ sizeLine) : VC E (rLn E.K) [.s x] μ (.i (x.length : Nat)) := fun G H S vs rs Q q => by
  cases rs with
  | cons r t =>
    cases t
    cases r
    exact ⟨_, _, rfl, ⟨hz, rfl⟩, q _ (Dr.int _)⟩
/-- the kind of a datum -/
def D.kind : D → String
  | .non => "NoneType"
  | .bl _ => "bool"
  | .int _ => "int"
  | .str _ => "str"
  | .tup _ => "tuple"
  | .lst _ => "list"
  | .ty _ => "?"
  | .cls _ => "?"
  | .exc _ _ _ => "?"
def W.kind : W → String
  | .dat d => d.kind
  | .at _ => "list"
theorem tyx_t {K : PySem.W.Frag} {H : Hp} {a : Addr} {xs : List V} (h : SqT K H a xs) : TyX K H (.ref a) (.type "tuple") := by
  rcases h with (h | ⟨o, h⟩) | ⟨o, its, n, h1, h2, _⟩
  · exact .base (.tup h)
  · exact .fTuple h
  · exact .kTuple h1 h2
theorem tyx_l {K : PySem.W.Frag} {H : Hp} {a : Addr} {xs : List V} (h : SqL K H a xs) : TyX K H (.ref a) (.type "list") := by
  rcases h with (h | ⟨o, h⟩) | ⟨o, its, n, h1, h2, _⟩
  · exact .base (.lst h)
  · exact .base (.frz h)
  · exact .kList h1 h2
theorem Dr.tyx {K : PySem.W.Frag} {G H : Hp} {v : V} (e : Ex G H) (h : Dr K G v d) (hk : d.kind ≠ "?") : TyX K H v (.type d.kind) := by
  cases h with
  | non => exact .base .non
  | bl _ => exact .base (.bl _)
  | int _ => exact .base (.int _)
  | str _ => exact .base (.str _)
  | ty _ => exact absurd rfl hk
  | cls _ => exact absurd rfl hk
  | exc0 _ => exact absurd rfl hk
  | exc1 _ _ _ => exact absurd rfl hk
  | tup hs _ => exact tyx_t (Evl.ex_t e hs)
  | lst hs _ => exact tyx_l (Evl.ex_l e hs)
theorem vc_isi {n : String} {b : Bool} (hk : d.kind ≠ "?") (h : kitB d.kind n = some b) : VC E (rIsi E.K) [.dat d, .dat (.ty n)] μ (.b b) := fun G H S vs rs Q q => by
  cases rs with
  | cons r t =>
    cases t with
    | cons r2 t =>
      cases r2; cases t
      exact ⟨_, _, _, _, b, rfl, .ty n, r.tyx S.gh hk, kit_ty h, q _ (Dr.bl _)⟩
theorem vc_isiA {n : String} {b : Bool} (hm : μ[k]? = some (l, .lst ws)) (h : kitB "list" n = some b) : VC E (rIsi E.K) [.at l, .dat (.ty n)] μ (.b b) := fun G H S vs rs Q q => by
  cases rs with
  | cons r t =>
    cases t with
    | cons r2 t =>
      cases r; cases r2; cases t
      obtain ⟨_, xs, hx, _⟩ := S.lst hm
      exact ⟨_, _, _, _, b, rfl, .ty n, .base (.lst hx), kit_ty h, q _ (Dr.bl _)⟩
/-- list(x), tuple(x): new -/
def rListOf (K : PySem.W.Frag) : List V → Hp → VK → Prop := fun xs H Q => ∃ p ys, xs = [.ref p] ∧ (SqL K H p ys ∨ SqT K H p ys) ∧ ∀ l, H l = none → Q (.ref l) (upd H l (.lst ys))
theorem cr_listOf {X : Cx} : CallR X (.type "list") (rListOf X.K) := call_list_of
def rTupleOf (K : PySem.W.Frag) : List V → Hp → VK → Prop := fun xs H Q => ∃ p ys, xs = [.ref p] ∧ ((SqL K H p ys ∧ ∀ l, H l = none → Q (.ref l) (upd H l (.tup ys))) ∨ (SqT K H p ys ∧ Q (.ref p) H))
theorem cr_tupleOf {X : Cx} : CallR X (.type "tuple") (rTupleOf X.K) := call_tuple_of
/-- the data of a list or a tuple -/
def D.seq : D → Option (List D)
  | .tup ds => some ds
  | .lst ds => some ds
  | _ => none
theorem Dr.seqOf {K : PySem.W.Frag} {G : Hp} {v : V} (h : Dr K G v d) (hs : d.seq = some ds) : ∃ a xs, v = .ref a ∧ (SqL K G a xs ∨ SqT K G a xs) ∧ DrA K G xs ds := by
  cases h with
  | tup h1 h2 => cases hs; exact ⟨_, _, rfl, .inr h1, h2⟩
  | lst h1 h2 => cases hs; exact ⟨_, _, rfl, .inl h1, h2⟩
  | _ => cases hs
theorem sq_up {K : PySem.W.Frag} {G H : Hp} {a : Addr} {xs : List V} (e : Ex G H) (h : SqL K G a xs ∨ SqT K G a xs) : SqL K H a xs ∨ SqT K H a xs := h.imp (Evl.ex_l e) (Evl.ex_t e)
/-- list(data), frozen -/
theorem rc_listF {Ψ : W → Mu → Prop} (hs : d.seq = some ds) (q : Ψ (.dat (.lst ds)) μ) : RC E (rListOf E.K) [.dat d] μ Ψ := fun G H S vs rs Q k => by
  cases rs with
  | cons r t =>
    cases t
    obtain ⟨a, xs, rfl, h1, h2⟩ := r.seqOf hs
    refine ⟨a, xs, rfl, sq_up S.gh h1, fun l hl => ?_⟩
    have hg := S.gnone hl
    exact k _ (.dat (.lst ds)) _ _ μ (S.newF hl) (.newF S hl) (Dr.lst (SqL.of upd_same) (h2.up (ex_new hg))) q
/-- list(data), owned -/
theorem rc_listO {Ψ : W → Mu → Prop} (hs : d.seq = some ds) (q : ∀ l, Ψ (.at l) ((l, .lst (ds.map .dat)) :: μ)) : RC E (rListOf E.K) [.dat d] μ Ψ := fun G H S vs rs Q k => by
  cases rs with
  | cons r t =>
    cases t
    obtain ⟨a, xs, rfl, h1, h2⟩ := r.seqOf hs
    refine ⟨a, xs, rfl, sq_up S.gh h1, fun l hl => ?_⟩
    exact k _ (.at l) _ _ _ (S.newO (c := .lst (ds.map .dat)) hl (show WrA _ _ _ _ from h2.ws)) (.newO S hl) rfl (q l)
theorem rc_listAF {Ψ : W → Mu → Prop} (hm : μ[k]? = some (l, .lst (ds.map .dat))) (q : Ψ (.dat (.lst ds)) μ) : RC E (rListOf E.K) [.at l] μ Ψ := fun G H S vs rs Q k => by
  cases rs with
  | cons r t =>
    cases t
    cases r
    obtain ⟨_, xs, hx, rx⟩ := S.lst hm
    refine ⟨l, xs, rfl, .inl (SqL.of hx), fun p hp => ?_⟩
    have hg := S.gnone hp
    exact k _ (.dat (.lst ds)) _ _ μ (S.newF hp) (.newF S hp) (Dr.lst (SqL.of upd_same) ((WrA.dats rx).up (ex_new hg))) q
theorem rc_tupF {Ψ : W → Mu → Prop} (q : Ψ (.dat (.tup ds)) μ) : RC E (rTupleOf E.K) [.dat (.lst ds)] μ Ψ := fun G H S vs rs Q k => by
  cases rs with
  | cons r t =>
    cases t
    cases r with
    | lst h1 h2 =>
      refine ⟨_, _, rfl, .inl ⟨Evl.ex_l S.gh h1, fun l hl => ?_⟩⟩
      have hg := S.gnone hl
      exact k _ (.dat (.tup ds)) _ _ μ (S.newF hl) (.newF S hl) (Dr.tup (SqT.of upd_same) (h2.up (ex_new hg))) q
end
/-! ### displays -/
/-- all are data -/
def undat : List W → Option (List D)
  | [] => some []
  | .dat d :: r => (undat r).map (d :: ·)
  | .at _ :: _ => none
theorem undat_ws : ∀ {ws : List W} {ds : List D}, undat ws = some ds → ws = ds.map .dat
  | [], _, h => by cases h; rfl
  | .dat d :: r, ds, h => by
    cases e : undat r with
    | none => rw [undat, e] at h; cases h
    | some es =>
      rw [undat, e] at h
      cases h
      rw [undat_ws e]; rfl
  | .at _ :: _, _, h => by cases h
section
variable {E : En} {ε : Ep} {μ : Mu} {tA : TA} {Ψ : W → Mu → Prop}
/-- a new tuple -/
def DT (ws : List W) (μ : Mu) (Ψ : W → Mu → Prop) : Prop := ∃ ds, undat ws = some ds ∧ ds.length ≤ sizeLine ∧ Ψ (.dat (.tup ds)) μ
/-- a new list: frozen | owned -/
def DL (ws : List W) (μ : Mu) (Ψ : W → Mu → Prop) : Prop := (∃ ds, undat ws = some ds ∧ ds.length ≤ sizeLine ∧ Ψ (.dat (.lst ds)) μ) ∨ (ws.length ≤ sizeLine ∧ ∀ l, Ψ (.at l) ((l, .lst ws) :: μ))
theorem re_tup (h : RA E tA ε μ fun ws μ1 => DT ws μ1 Ψ) : RE E (tTup tA) ε μ Ψ := fun σ G H C X Q k => h σ G H C X _ fun vs ws G1 H1 μ1 S1 s1 rs ⟨ds, hu, hz, q⟩ => by
  have e := undat_ws hu
  subst e
  have ra := WrA.dats rs
  refine ⟨by rw [ra.length]; exact hz, fun p hp => ?_⟩
  have hg := S1.gnone hp
  exact k _ (.dat (.tup ds)) _ _ μ1 (S1.newF hp) (s1.trans (.newF S1 hp)) (Dr.tup (SqT.of upd_same) (ra.up (ex_new hg))) q
theorem re_lst (h : RA E tA ε μ fun ws μ1 => DL ws μ1 Ψ) : RE E (tLst tA) ε μ Ψ := fun σ G H C X Q k => h σ G H C X _ fun vs ws G1 H1 μ1 S1 s1 rs hq => by
  rcases hq with ⟨ds, hu, hz, q⟩ | ⟨hz, q⟩
  · have e := undat_ws hu
    subst e
    have ra := WrA.dats rs
    refine ⟨by rw [ra.length]; exact hz, fun p hp => ?_⟩
    have hg := S1.gnone hp
    exact k _ (.dat (.lst ds)) _ _ μ1 (S1.newF hp) (s1.trans (.newF S1 hp)) (Dr.lst (SqL.of upd_same) (ra.up (ex_new hg))) q
  · refine ⟨by rw [Paired.length rs]; exact hz, fun p hp => ?_⟩
    exact k _ (.at p) _ _ _ (S1.newO (c := .lst ws) hp (show WrA _ _ _ _ from rs)) (s1.trans (.newO S1 hp)) rfl (q p)
theorem dl_f {ws : List W} {ds : List D} (hu : undat ws = some ds) (hz : ds.length ≤ sizeLine) (q : Ψ (.dat (.lst ds)) μ) : DL ws μ Ψ := .inl ⟨ds, hu, hz, q⟩
theorem dl_o {ws : List W} (hz : ws.length ≤ sizeLine) (q : ∀ l, Ψ (.at l) ((l, .lst ws) :: μ)) : DL ws μ Ψ := .inr ⟨hz, q⟩
end
/-! ### statements -/
section
variable {E : En} {ε : Ep} {μ : Mu} {te ta tb : TE} {tA : TA} {tt : TT} {t u : TS} {g : TG} {gs : TGs} {Φ : Fi} {w : W} {ws : List W} {b : Bool} {i k : Nat} {l : Addr}
theorem rs_seq (h : RS E t ε μ { Φ with nx := fun ε' μ' => RS E u ε' μ' Φ }) : RS E (tSeq t u) ε μ Φ := fun σ G H C X D T =>
  h σ G H C X { D with nx := u D } ⟨fun σ' ε' G' H' μ' S s q => q σ' G' H' S (X.to s) D (T.to s), T.rt, T.bk, T.ct⟩
theorem rs_next (h : Φ.nx ε μ) : RS E tNext ε μ Φ := fun σ G H C X D T => T.nx σ ε G H μ C (.refl μ G H) h
theorem rs_brk (h : Φ.bk ε μ) : RS E tBreak ε μ Φ := fun σ G H C X D T => T.bk σ ε G H μ C (.refl μ G H) h
theorem rs_cont (h : Φ.ct ε μ) : RS E tCont ε μ Φ := fun σ G H C X D T => T.ct σ ε G H μ C (.refl μ G H) h
theorem rs_ret (h : RE E te ε μ Φ.rt) : RS E (tRet te) ε μ Φ := fun σ G H C X D T => h σ G H C X D.rt T.rt
theorem rs_retN (h : Φ.rt .n μ) : RS E tRetN ε μ Φ := fun σ G H C X D T => T.rt .non .n G H μ C.hold (.refl μ G H) Dr.non h
theorem rs_drop (h : RE E te ε μ fun _ μ' => Φ.nx ε μ') : RS E (tDrop te) ε μ Φ := fun σ G H C X D T => h σ G H C X _ fun v w G' H' μ' S s r q => T.nx σ ε G' H' μ' (C.to S s) s q
theorem rs_if (h : RT E tt ε μ fun b μ1 => (b = true → RS E t ε μ1 Φ) ∧ (b = false → RS E u ε μ1 Φ)) : RS E (tIfS tt t u) ε μ Φ := fun σ G H C X D T => h σ G H C X _ fun b G1 H1 μ1 S s q => by
  cases b with
  | true => exact q.1 rfl σ G1 H1 (C.to S s) (X.to s) D (T.to s)
  | false => exact q.2 rfl σ G1 H1 (C.to S s) (X.to s) D (T.to s)
theorem rs_ifv (h : VT E tt ε μ b) (h1 : b = true → RS E t ε μ Φ) (h2 : b = false → RS E u ε μ Φ) : RS E (tIfS tt t u) ε μ Φ := rs_if (rt_v h ⟨h1, h2⟩)
theorem rs_asg (h : RE E te ε μ fun w μ' => RG E g w ε μ' Φ.nx) : RS E (tAsg te g) ε μ Φ := fun σ G H C X D T => h σ G H C X _ fun v w G1 H1 μ1 S s r q =>
  q σ G1 H1 (C.to S s) v r _ fun σ' ε' G' H' μ' S' s' q' => T.nx σ' ε' G' H' μ' S' (s.trans s') q'
theorem rg_name {ε' : Ep} {Ψ : Ep → Mu → Prop} (he : ε.set i (some w) = ε') (h : Ψ ε' μ) : RG E (gName i) w ε μ Ψ := fun σ G H C v r Q q => q _ ε' G H μ ⟨C.hold, he ▸ C.slots.set i r⟩ (.refl μ G H) h
theorem rgs_nil {Ψ : Ep → Mu → Prop} (h : Ψ ε μ) : RGs E gNil [] ε μ Ψ := fun σ G H C vs rs Q q => by
  cases rs
  exact ⟨rfl, q σ ε G H μ C (.refl μ G H) h⟩
theorem rgs_cons {Ψ : Ep → Mu → Prop} (h : RG E g w ε μ fun ε' μ' => RGs E gs ws ε' μ' Ψ) : RGs E (gCons g gs) (w :: ws) ε μ Ψ := fun σ G H C vs rs Q q => by
  cases rs with
  | @cons v _ vr _ r t =>
    exact ⟨v, vr, rfl, h σ G H C v r _ fun σ1 ε1 G1 H1 μ1 S1 s1 h1 => h1 σ1 G1 H1 S1 vr (WrA.up t s1.gg) Q fun σ2 ε2 G2 H2 μ2 S2 s2 q2 => q σ2 ε2 G2 H2 μ2 S2 (s1.trans s2) q2⟩
theorem rg_tup {ds : List D} {n : Nat} {Ψ : Ep → Mu → Prop} (hn : ds.length = n) (h : RGs E gs (ds.map .dat) ε μ Ψ) : RG E (gTup E.K n gs) (.dat (.tup ds)) ε μ Ψ := fun σ G H C v r Q q => by
  cases r with
  | tup hs ha => exact ⟨_, _, rfl, Evl.ex_t C.hold.gh hs, by rw [ha.length, hn], h σ G H C _ ha.ws Q q⟩
theorem rs_par {j : Nat} {w1 w2 : W} {ε' : Ep} (h : RA E tA ε μ fun ws μ' => ∃ w1 w2, ws = [w1, w2] ∧ Φ.nx ((ε.set i (some w1)).set j (some w2)) μ') : RS E (tPar i j tA) ε μ Φ := fun σ G H C X D T => h σ G H C X _ fun vs ws G1 H1 μ1 S s r ⟨w1, w2, e, q⟩ => by
  subst e
  cases r with
  | cons r1 r => cases r with
    | cons r2 r =>
      cases r
      have C1 := C.to S s
      exact ⟨_, _, rfl, T.nx _ _ G1 H1 μ1 ⟨S, (C1.slots.set i r1).set j r2⟩ s q⟩
/-- i, j = a, b where both sides are plain values -/
theorem rs_parv {j : Nat} {w1 w2 : W} {ε' : Ep} (h : VA E tA ε μ [w1, w2]) (he : (ε.set i (some w1)).set j (some w2) = ε') (q : Φ.nx ε' μ) : RS E (tPar i j tA) ε μ Φ := rs_par (w1 := w1) (w2 := w2) (ε' := ε') (ra_v h ⟨w1, w2, rfl, he ▸ q⟩)
theorem rs_setv {ε' : Ep} (h : VE E te ε μ w) (he : ε.set i (some w) = ε') (q : Φ.nx ε' μ) : RS E (tAsg te (gName i)) ε μ Φ := rs_asg (re_v h (rg_name he q))
theorem rs_retv (h : VE E te ε μ w) (q : Φ.rt w μ) : RS E (tRet te) ε μ Φ := rs_ret (re_v h q)
/-- xs[i] = e -/
theorem rs_setItem (h : RE E te ε μ fun w μ1 => ∃ (k : Nat) (l : Addr) (ws : List W) (i : Int) (j : Nat), VE E ta ε μ1 (.at l) ∧ VE E tb ε μ1 (.i i) ∧ μ1[k]? = some (l, .lst ws) ∧ ixN ws.length i = some j ∧ Φ.nx ε (μ1.set k (l, .lst (ws.set j w)))) : RS E (tAsg te (gSub ta tb rSetL)) ε μ Φ :=
  fun σ G H C X D T => h σ G H C X _ fun v w G1 H1 μ1 S s r ⟨k, l, ws, i, j, va, vb, hk, hj, q⟩ => by
    have C1 := C.to S s
    refine va σ G1 H1 C1 _ fun v1 r1 => vb σ G1 H1 C1 _ fun v2 r2 => ?_
    cases r1; cases r2
    obtain ⟨_, xs, hx, rx⟩ := S.lst hk
    refine ⟨l, xs, i, j, rfl, rfl, hx, by rw [Paired.length rx]; exact hj, ?_⟩
    have S2 := S.write (o := .lst (xs.set j v)) (c' := .lst (ws.set j w)) hk (show WrA _ _ _ _ from WrA.set r j rx)
    have s2 : Since μ1 G1 H1 G1 (upd H1 l (.lst (xs.set j v))) (μ1.set k (l, .lst (ws.set j w))) := .write S hk
    exact T.nx σ ε G1 _ _ ⟨S2, C1.slots⟩ (s.trans s2) q
/-- xs[i] = e, all of them plain values -/
theorem rs_setItemV {i : Int} {j : Nat} {μ' : Mu} (h : VE E te ε μ w) (va : VE E ta ε μ (.at l)) (vb : VE E tb ε μ (.i i)) (hk : μ[k]? = some (l, .lst ws)) (hj : ixN ws.length i = some j) (hm : μ.set k (l, .lst (ws.set j w)) = μ') (q : Φ.nx ε μ') : RS E (tAsg te (gSub ta tb rSetL)) ε μ Φ :=
  rs_setItem (re_v h ⟨k, l, ws, i, j, va, vb, hk, hj, hm ▸ q⟩)
theorem rs_setItem0 {i : Int} {j : Nat} {μ' : Mu} (h : VE E te ε μ w) (va : VE E ta ε μ (.at l)) (vb : VE E tb ε μ (.i i)) (hk : μ[0]? = some (l, .lst ws)) (hj : ixN ws.length i = some j) (hm : μ.set 0 (l, .lst (ws.set j w)) = μ') (q : Φ.nx ε μ') : RS E (tAsg te (gSub ta tb rSetL)) ε μ Φ := rs_setItemV h va vb hk hj hm q
theorem rs_setItem1 {i : Int} {j : Nat} {μ' : Mu} (h : VE E te ε μ w) (va : VE E ta ε μ (.at l)) (vb : VE E tb ε μ (.i i)) (hk : μ[1]? = some (l, .lst ws)) (hj : ixN ws.length i = some j) (hm : μ.set 1 (l, .lst (ws.set j w)) = μ') (q : Φ.nx ε μ') : RS E (tAsg te (gSub ta tb rSetL)) ε μ Φ := rs_setItemV h va vb hk hj hm q
theorem rs_setItem2 {i : Int} {j : Nat} {μ' : Mu} (h : VE E te ε μ w) (va : VE E ta ε μ (.at l)) (vb : VE E tb ε μ (.i i)) (hk : μ[2]? = some (l, .lst ws)) (hj : ixN ws.length i = some j) (hm : μ.set 2 (l, .lst (ws.set j w)) = μ') (q : Φ.nx ε μ') : RS E (tAsg te (gSub ta tb rSetL)) ε μ Φ := rs_setItemV h va vb hk hj hm q
theorem rs_cut (J : Ep → Mu → Prop) (h1 : RS E t ε μ { Φ with nx := J }) (h2 : ∀ ε' μ', J ε' μ' → RS E u ε' μ' Φ) : RS E (tSeq t u) ε μ Φ := rs_seq (rs_mono h1 h2 (fun _ _ q => q) (fun _ _ q => q) fun _ _ q => q)
theorem rs_to (J : Ep → Mu → Prop) (h1 : RS E t ε μ { Φ with nx := J }) (h2 : ∀ ε' μ', J ε' μ' → Φ.nx ε' μ') : RS E t ε μ Φ := rs_mono h1 h2 (fun _ _ q => q) (fun _ _ q => q) fun _ _ q => q
/-- l.append(e) -/
theorem rs_append (va : VE E ta ε μ (.at l)) (h0 : μ[k]? = some (l, .lst ws)) (h : RE E te ε μ fun w μ1 => ∃ (k : Nat) (ws : List W), μ1[k]? = some (l, .lst ws) ∧ ws.length < sizeLine ∧ Φ.nx ε (μ1.set k (l, .lst (ws ++ [w])))) : RS E (tDrop (tBM E.K "list" rAppend ta (tCons te tNil))) ε μ Φ :=
  fun σ G H C X D T => va σ G H C _ fun v1 r1 => by
    cases r1
    obtain ⟨_, xs0, hx0, _⟩ := C.hold.lst h0
    refine ⟨Or.inl ⟨rfl, xs0, SqL.of hx0⟩, ?_⟩
    refine h σ G H C X _ fun v w G1 H1 μ1 S s r ⟨k, ws, hk, hz, q⟩ => ?_
    obtain ⟨_, xs, hx, rx⟩ := S.lst hk
    refine ⟨l, xs, v, rfl, rfl, hx, by rw [Paired.length rx]; exact hz, ?_⟩
    have S2 := S.write (o := .lst (xs ++ [v])) (c' := .lst (ws ++ [w])) hk (show WrA _ _ _ _ from WrA.snoc r rx)
    have s2 : Since μ1 G1 H1 G1 (upd H1 l (.lst (xs ++ [v]))) (μ1.set k (l, .lst (ws ++ [w]))) := .write S hk
    exact T.nx σ ε G1 _ _ ⟨S2, (C.to S s).slots⟩ (s.trans s2) q
/-- l.pop() -/
theorem re_pop {Ψ : W → Mu → Prop} (va : VE E ta ε μ (.at l)) (hk : μ[k]? = some (l, .lst ws)) (hw : ws[ws.length - 1]? = some w) (q : Ψ w (μ.set k (l, .lst ws.dropLast))) : RE E (tBM0 E.K "list" rPop ta) ε μ Ψ := fun σ G H C X Q kq => va σ G H C _ fun v1 r1 => by
  cases r1
  obtain ⟨_, xs, hx, rx⟩ := C.hold.lst hk
  refine ⟨Or.inl ⟨rfl, xs, SqL.of hx⟩, ?_⟩
  obtain ⟨v, hv, rv⟩ := WrA.get rx (i := ws.length - 1) hw
  refine ⟨l, xs, v, rfl, rfl, hx, by rw [Paired.length rx]; exact hv, ?_⟩
  exact kq v w G _ _ (C.hold.write (o := .lst xs.dropLast) (c' := .lst ws.dropLast) hk (show WrA _ _ _ _ from WrA.dropLast rx)) (.write C.hold hk) rv q
end
/-! ### loops -/
section
variable {E : En} {ε : Ep} {μ : Mu} {te : TE} {tA : TA} {tt : TT} {t : TS} {g : TG} {Φ : Fi} {j : Nat}
/-- what a turn comes to -/
abbrev Fi.turn (Φ : Fi) (P : Ep → Mu → Prop) : Fi := { nx := P, rt := Φ.rt, bk := Φ.nx, ct := P }
theorem turn_ties {E : En} {μ μ1 : Mu} {G H G1 H1 : Hp} {Φ : Fi} {D : Ends} {P : Ep → Mu → Prop} {N : L2.St → Hp → Prop} (T : Ties E μ G H Φ D) (s : Since μ G H G1 H1 μ1)
    (hN : ∀ σ' ε' G' H' μ', St E.K σ' ε' G' H' μ' → Since μ1 G1 H1 G' H' μ' → P ε' μ' → N σ' H') : Ties E μ1 G1 H1 (Φ.turn P) { D with nx := N, ct := N, bk := D.nx } :=
  ⟨hN, fun v w G' H' μ' S s' r q => T.rt v w G' H' μ' S (s.trans s') r q, fun σ' ε' G' H' μ' S s' q => T.nx σ' ε' G' H' μ' S (s.trans s') q, hN⟩
/-- for j in range(n) -/
theorem rs_forR1 {n : Int} (P : Nat → Ep → Mu → Prop) (hv : VA E tA ε μ [.i n]) (hn : n < 2 ^ 62) (hn0 : -(2 ^ 62) ≤ n) (h0 : P 0 ε μ)
    (hs : ∀ (i : Nat) ε' μ', (i : Int) < n → P i ε' μ' → RS E t (ε'.set j (some (.i (i : Int)))) μ' (Φ.turn (P (i + 1)))) (hd : ∀ ε' μ', P n.toNat ε' μ' → Φ.nx ε' μ') : RS E (tFor (iRng1 tA) (gName j) t) ε μ Φ := fun σ G H C X D T => hv σ G H C _ fun vs rs => by
  cases rs with
  | cons r r2 =>
    cases r; cases r2
    refine ⟨n, rfl, hn0, hn, for_range (lo := 0) (n := n.toNat) (fun i σ' H' => ∃ ε' G' μ', St E.K σ' ε' G' H' μ' ∧ Since μ G H G' H' μ' ∧ P i ε' μ') ⟨ε, G, μ, C, .refl μ G H, h0⟩ ?_ ?_⟩
    · rintro i σ' H' hi ⟨ε', G', μ', C', s', p⟩
      have e0 : (0 : Int) + (i : Int) = (i : Int) := Int.zero_add _
      show t _ (σ'.set j (some (.int ((0 : Int) + (i : Int))))) H'
      rw [e0]
      exact hs i ε' μ' (by omega) p _ G' H' ⟨C'.hold, C'.slots.set j (show Wr E.K G' (.int (i : Int)) (.i (i : Int)) from Dr.int _)⟩ (X.to s') _ (turn_ties T s' fun σ2 ε2 G2 H2 μ2 S2 s2 q => ⟨ε2, G2, μ2, S2, s'.trans s2, q⟩)
    · rintro σ' H' ⟨ε', G', μ', C', s', p⟩
      exact T.nx σ' ε' G' H' μ' C' s' (hd ε' μ' p)
/-- for j in range(lo, n) -/
theorem rs_forR2 {lo n : Int} (P : Nat → Ep → Mu → Prop) (hv : VA E tA ε μ [.i lo, .i n]) (hb : -(2 ^ 62) ≤ lo ∧ lo < 2 ^ 62 ∧ -(2 ^ 62) ≤ n ∧ n < 2 ^ 62) (h0 : P 0 ε μ)
    (hs : ∀ (i : Nat) ε' μ', lo + (i : Int) < n → P i ε' μ' → RS E t (ε'.set j (some (.i (lo + (i : Int))))) μ' (Φ.turn (P (i + 1)))) (hd : ∀ ε' μ', P (n - lo).toNat ε' μ' → Φ.nx ε' μ') : RS E (tFor (iRng2 tA) (gName j) t) ε μ Φ := fun σ G H C X D T => hv σ G H C _ fun vs rs => by
  cases rs with
  | cons r r2 =>
    cases r2 with
    | cons r3 r4 =>
      cases r; cases r3; cases r4
      refine ⟨lo, n, rfl, hb, for_range (lo := lo) (n := (n - lo).toNat) (fun i σ' H' => ∃ ε' G' μ', St E.K σ' ε' G' H' μ' ∧ Since μ G H G' H' μ' ∧ P i ε' μ') ⟨ε, G, μ, C, .refl μ G H, h0⟩ ?_ ?_⟩
      · rintro i σ' H' hi ⟨ε', G', μ', C', s', p⟩
        exact hs i ε' μ' (by omega) p _ G' H' ⟨C'.hold, C'.slots.set j (show Wr E.K G' (.int (lo + (i : Int))) (.i (lo + (i : Int))) from Dr.int _)⟩ (X.to s') _ (turn_ties T s' fun σ2 ε2 G2 H2 μ2 S2 s2 q => ⟨ε2, G2, μ2, S2, s'.trans s2, q⟩)
      · rintro σ' H' ⟨ε', G', μ', C', s', p⟩
        exact T.nx σ' ε' G' H' μ' C' s' (hd ε' μ' p)
/-- for g in a frozen list -/
theorem rs_forL (P : Nat → Ep → Mu → Prop) (hv : RE E te ε μ fun w μ1 => ∃ ds, w = .dat (.lst ds) ∧ P 0 ε μ1 ∧
      (∀ (i : Nat) d ε' μ', ds[i]? = some d → P i ε' μ' → RG E g (.dat d) ε' μ' fun ε2 μ2 => RS E t ε2 μ2 (Φ.turn (P (i + 1)))) ∧ ∀ ε' μ', P ds.length ε' μ' → Φ.nx ε' μ') : RS E (tFor (iList E.K te) g t) ε μ Φ := fun σ G H C X D T => hv σ G H C X _ fun v w G1 H1 μ1 S1 s1 r ⟨ds, e, h0, hs, hd⟩ => by
  subst e
  cases r with
  | @lst a xs _ hq ha =>
    refine ⟨a, rfl, ⟨xs, Evl.ex_l S1.gh hq⟩, for_list (K := E.K) (a := a) (xs := xs) (fun i σ' H' => ∃ ε' G' μ', St E.K σ' ε' G' H' μ' ∧ Since μ1 G1 H1 G' H' μ' ∧ P i ε' μ') ⟨ε, G1, μ1, C.to S1 s1, .refl μ1 G1 H1, h0⟩ ?_ ?_ ?_⟩
    · rintro i σ' H' _ ⟨ε', G', μ', C', s', p⟩
      exact Evl.ex_l C'.hold.gh (Evl.ex_l s'.gg hq)
    · rintro i x σ' H' hx ⟨ε', G', μ', C', s', p⟩
      obtain ⟨d, hd1, rd⟩ := ha.get' hx
      exact hs i d ε' μ' hd1 p σ' G' H' C' x (show Wr E.K G' x (.dat d) from rd.up s'.gg) _ fun σ2 ε2 G2 H2 μ2 S2 s2 q => q σ2 G2 H2 S2 (X.to (s1.trans (s'.trans s2))) _ (turn_ties T (s1.trans (s'.trans s2)) fun σ3 ε3 G3 H3 μ3 S3 s3 q3 => ⟨ε3, G3, μ3, S3, (s'.trans s2).trans s3, q3⟩)
    · rintro σ' H' ⟨ε', G', μ', C', s', p⟩
      rw [ha.length] at p
      exact T.nx σ' ε' G' H' μ' C' (s1.trans s') (hd ε' μ' p)
/-- for g in a tuple -/
theorem rs_forT (P : Nat → Ep → Mu → Prop) (hv : RE E te ε μ fun w μ1 => ∃ ds, w = .dat (.tup ds) ∧ P 0 ε μ1 ∧
      (∀ (i : Nat) d ε' μ', ds[i]? = some d → P i ε' μ' → RG E g (.dat d) ε' μ' fun ε2 μ2 => RS E t ε2 μ2 (Φ.turn (P (i + 1)))) ∧ ∀ ε' μ', P ds.length ε' μ' → Φ.nx ε' μ') : RS E (tFor (iTup E.K te) g t) ε μ Φ := fun σ G H C X D T => hv σ G H C X _ fun v w G1 H1 μ1 S1 s1 r ⟨ds, e, h0, hs, hd⟩ => by
  subst e
  cases r with
  | @tup a xs _ hq ha =>
    refine ⟨a, rfl, ⟨xs, Evl.ex_t S1.gh hq⟩, for_tup (K := E.K) (a := a) (xs := xs) (fun i σ' H' => ∃ ε' G' μ', St E.K σ' ε' G' H' μ' ∧ Since μ1 G1 H1 G' H' μ' ∧ P i ε' μ') ⟨ε, G1, μ1, C.to S1 s1, .refl μ1 G1 H1, h0⟩ ?_ ?_ ?_⟩
    · rintro i σ' H' _ ⟨ε', G', μ', C', s', p⟩
      exact Evl.ex_t C'.hold.gh (Evl.ex_t s'.gg hq)
    · rintro i x σ' H' hx ⟨ε', G', μ', C', s', p⟩
      obtain ⟨d, hd1, rd⟩ := ha.get' hx
      exact hs i d ε' μ' hd1 p σ' G' H' C' x (show Wr E.K G' x (.dat d) from rd.up s'.gg) _ fun σ2 ε2 G2 H2 μ2 S2 s2 q => q σ2 G2 H2 S2 (X.to (s1.trans (s'.trans s2))) _ (turn_ties T (s1.trans (s'.trans s2)) fun σ3 ε3 G3 H3 μ3 S3 s3 q3 => ⟨ε3, G3, μ3, S3, (s'.trans s2).trans s3, q3⟩)
    · rintro σ' H' ⟨ε', G', μ', C', s', p⟩
      rw [ha.length] at p
      exact T.nx σ' ε' G' H' μ' C' (s1.trans s') (hd ε' μ' p)
/-- while: a word with a measure -/
theorem rs_while (P : Nat → Ep → Mu → Prop) (m0 : Nat) (h0 : P m0 ε μ)
    (hs : ∀ m ε' μ', P m ε' μ' → ∃ b, VT E tt ε' μ' b ∧ (b = true → RS E t ε' μ' (Φ.turn fun ε2 μ2 => ∃ m', m' < m ∧ P m' ε2 μ2)) ∧ (b = false → Φ.nx ε' μ')) : RS E (tWhile tt t) ε μ Φ := fun σ G H C X D T =>
  ⟨fun m σ' H' => ∃ ε' G' μ', St E.K σ' ε' G' H' μ' ∧ Since μ G H G' H' μ' ∧ P m ε' μ', ⟨m0, ε, G, μ, C, .refl μ G H, h0⟩, by
    rintro m σ' H' ⟨ε', G', μ', C', s', p⟩
    obtain ⟨b, hb, h1, h2⟩ := hs m ε' μ' p
    refine hb σ' G' H' C' _ ?_
    cases b with
    | true =>
      refine ⟨fun σ2 H2 => ∃ m', m' < m ∧ ∃ ε' G' μ', St E.K σ2 ε' G' H2 μ' ∧ Since μ G H G' H2 μ' ∧ P m' ε' μ', fun _ _ q => q, ?_⟩
      exact h1 rfl σ' G' H' C' (X.to s') _ (turn_ties T s' fun σ2 ε2 G2 H2 μ2 S2 s2 ⟨m', hm, q⟩ => ⟨m', hm, ε2, G2, μ2, S2, s'.trans s2, q⟩)
    | false => exact T.nx σ' ε' G' H' μ' C' s' (h2 rfl)⟩
end
/-! ### calls -/
/-- a promise at the level of data: arguments, owned objects, what is wanted of the result, of an exception -/
abbrev FS := List W → Mu → (W → Mu → Prop) → (Value → List (Str × D) → Mu → Prop) → Prop
def spF (K : PySem.W.Frag) (F : FS) : Sp := fun vs H Q E => ∃ (G : Hp) (ws : List W) (μ : Mu) (R : W → Mu → Prop) (X : Value → List (Str × D) → Mu → Prop), Hold K G H μ ∧ WrA K G vs ws ∧ F ws μ R X ∧
  (∀ v w G' H' μ', Hold K G' H' μ' → Since μ G H G' H' μ' → Wr K G' v w → R w μ' → Q v H') ∧
  (∀ cls d fs G' H' μ', Hold K G' H' μ' → Since μ G H G' H' μ' → ExAt K H G' H' d fs → X cls fs μ' → E cls d H')
/-- a def that a name of the module's stands for -/
structure Fn (P : Program) (w : World) (K : PySem.W.Frag) (mg : Str → Option Value) (base : Heap) (x : Str) (k : Nat) (ps : List Str) (F : FS) : Prop where
  ex : ∃ (f : Addr) (fd : FuncData), mg x = some (.ref f) ∧ PySem.W.keepIn K (.ref f) = true ∧ (∀ (s : Shared) (us : List Value), us.length = ps.length → BindsTo s fd ⟨us, []⟩ (ps.zip us)) ∧ FnOk P w K mg base (L2.CX P w) k f fd ps (spF K F) ∧ ∃ o, K.lookup f = some o ∧ o.data = .func fd
theorem binds_of {K : PySem.W.Frag} {fd : FuncData} {ps : List Str} (h : ∀ (s : Shared) (us : List Value), us.length = ps.length → BindsTo s fd ⟨us, []⟩ (ps.zip us)) : Binds K fd ps [] := fun s us _ hl => by
  rw [List.append_nil] at hl ⊢
  exact h s us hl
/-- f(e, ..) as CallF asks it: the callee sees the owned objects from the n-th on -/
def CallF (E : En) (F : FS) (ws : List W) (ε : Ep) (μ : Mu) (Ψ : W → Mu → Prop) : Prop := ∃ n, F ws (μ.drop n) (fun w μ' => Ψ w (μ.take n ++ μ')) fun cls fs μ' => E.χ ε cls fs (μ.take n ++ μ')
theorem re_call {E : En} {F : FS} {tA : TA} {ε : Ep} {μ : Mu} {Ψ : W → Mu → Prop} (h : RA E tA ε μ fun ws μ1 => CallF E F ws ε μ1 Ψ) : RE E (tCallS (spF E.K F) (WE E.W) tA) ε μ Ψ := fun σ G H C X Q k =>
  h σ G H C X _ fun vs ws G1 H1 μ1 S1 s1 rs ⟨n, hF⟩ => by
    refine ⟨G1, ws, μ1.drop n, _, _, S1.tail n, rs, hF, fun v w G' H' μ' S' s' r q => ?_, fun cls d fs G' H' μ' S' s' e q => ?_⟩
    · exact k v w G' H' _ (S1.frame n S' s') (s1.trans (.frame (K := E.K) n s')) r q
    · have s2 := s1.trans (Since.frame (K := E.K) n s')
      exact X σ ε G' H' _ cls d fs (C.to (S1.frame n S' s') s2) s2 (e.back s1) q
/-- .. the arguments given by values and keywords -/
theorem re_callK {E : En} {F : FS} {tA tK : TA} {gV : List V → List V → List V} {gW : List W → List W → List W} {ε : Ep} {μ : Mu} {Ψ : W → Mu → Prop} (hg : ∀ (K : PySem.W.Frag) (G : Hp) vs zs ws us, WrA K G vs ws → WrA K G zs us → WrA K G (gV vs zs) (gW ws us)) 
    (h : RA E tA ε μ fun ws μ1 => RA E tK ε μ1 fun us μ2 => CallF E F (gW ws us) ε μ2 Ψ) : RE E (fun σ H Q => tA σ H fun vs H1 => tK σ H1 fun zs H2 => spF E.K F (gV vs zs) H2 Q (WE E.W σ)) ε μ Ψ := fun σ G H C X Q k =>
  h σ G H C X _ fun vs ws G1 H1 μ1 S1 s1 rs h1 => h1 σ G1 H1 (C.to S1 s1) (X.to s1) _ fun zs us G2 H2 μ2 S2 s2 rs2 ⟨n, hF⟩ => by
    refine ⟨G2, gW ws us, μ2.drop n, _, _, S2.tail n, hg E.K G2 _ _ _ _ (WrA.up rs s2.gg) rs2, hF, fun v w G' H' μ' S' s' r q => ?_, fun cls d fs G' H' μ' S' s' e q => ?_⟩
    · exact k v w G' H' _ (S2.frame n S' s') ((s1.trans s2).trans (.frame (K := E.K) n s')) r q
    · have s3 := (s1.trans s2).trans (Since.frame (K := E.K) n s')
      exact X σ ε G' H' _ cls d fs (C.to (S2.frame n S' s') s3) s3 (e.back (s1.trans s2)) q
/-- no owned object is shown to the callee -/
theorem callF0 {E : En} {F : FS} {ws : List W} {ε : Ep} {μ : Mu} {Ψ : W → Mu → Prop} (h : F ws [] (fun w μ' => Ψ w (μ ++ μ')) fun cls fs μ' => E.χ ε cls fs (μ ++ μ')) : CallF E F ws ε μ Ψ := by
  refine ⟨μ.length, ?_⟩
  rw [List.drop_length, List.take_length]
  exact h
section
variable {X : Cx} {k k' : Nat} {x : Str} {ps : List Str} {F : FS} {W : WX} {e : Expr} {es : List Expr} {t : TA} {p pos : Pos}
theorem pe_fn (h : Fn X.prog X.w X.K X.mg X.base x k ps F) (hr : Room k' X.A) (hk : k ≤ k') (hg : Gl X x) (tk : Takes X W) (ha : PA X (e :: es) t) (hdb : (x == ("__debug__" : Str)) = false := by decide)
    (he : starEach (e :: es) X.env = (false, eval e X.env) :: starEach es X.env := by rfl) (hpl : (backTo pos (starEach es X.env)).any (·.1) = false := by rfl) : PE X (.Call (.Name x p) (e :: es) [] pos) (tCallS (spF X.K F) (WE W) t) := by
  obtain ⟨f, fd, hm, hkp, hb, hf, _⟩ := h.ex
  exact pe_callS hf (hr.mono hk) hg hm hkp (binds_of hb) (fun σ => passAt tk σ) ha hdb he hpl
end
/-! ### a def -/
def startE (N : List Str) (ws : List W) : Ep := ws.map some ++ List.replicate (N.length - ws.length) none
theorem start_slots {K : PySem.W.Frag} {G : Hp} {N : List Str} {vs : List V} {ws : List W} (r : WrA K G vs ws) : Slots K G (L2.start N vs) (startE N ws) := by
  have hl := Paired.length r
  refine ⟨by unfold L2.start startE; rw [List.length_append, List.length_append, List.length_map, List.length_map, List.length_replicate, List.length_replicate, hl], fun i w hw => ?_⟩
  unfold startE at hw
  unfold L2.start
  by_cases hi : i < ws.length
  · rw [List.getElem?_append_left (by rw [List.length_map]; exact hi), List.getElem?_map] at hw
    rw [List.getElem?_append_left (by rw [List.length_map, hl]; exact hi), List.getElem?_map]
    cases e : ws[i]? with
    | none => rw [e] at hw; cases hw
    | some w' =>
      rw [e] at hw
      cases hw
      obtain ⟨v, hv, rv⟩ := WrA.get r e
      exact ⟨v, by rw [hv]; rfl, rv⟩
  · rw [List.getElem?_append_right (by rw [List.length_map]; omega)] at hw
    rw [List.getElem?_replicate] at hw
    split at hw <;> cases hw
section
variable {P : Program} {w : World} {K : PySem.W.Frag} {mg : Str → Option Value} {base : Heap} {x : Str} {st : Stmt} {N ps : List Str} {k : Nat} {F : FS} {f : Addr}
theorem fn_mk (gl : mg x = some (.ref f)) (D : ∃ fd, FunD K x x (defArgs st) (defBody st) (defScope st) [] [] f fd) (S : FnScope N ps (defScope st)) (len : ∀ ws μ R X, F ws μ R X → ws.length = ps.length)
    (hb : ∀ (kV doc pm : Value) (an : Option Addr) (cdv ct : Value) (us : List Value), us.length = ps.length → bindArgs (PySem.W.fnOf x x (defArgs st) (defBody st) (defScope st) .none kV doc pm an cdv ct) ⟨us, []⟩ = pure (ps.zip us))
    (body : ∀ (cdv : Value) (A : Around) (outer : List Env) (s : Shared) (H : Hp) (E : XK), Room k (A.deeper (envOfC x (defScope st) s.heap.objs.size f cdv)) →
      ∃ t, PSs (cxOf (L2.CX P w) P w K mg base N x (defScope st) f cdv A outer s H E) (defBody st) t ∧
        ∀ ws μ R X, F ws μ R X → RS ⟨K, fun cls d _ H => E cls d H, fun _ => X⟩ t (startE N ws) μ { nx := fun _ μ' => R .n μ', rt := R }) : Fn P w K mg base x (k + 1) ps F := by
  obtain ⟨fd, D⟩ := D
  refine ⟨f, fd, gl, D.kp, FunD.bindsA D hb, ?_, by
    obtain ⟨_, _, _, _, _, _, _, _, _, _, _, h, _⟩ := D.ex
    exact ⟨_, h, rfl⟩⟩
  refine D.ok S (fun vs H Q E h => ?_) fun cdv A outer s H vs Q E hr h => ?_
  · obtain ⟨G, ws, μ, R, X, _, r, hF, _⟩ := h
    rw [Paired.length r]; exact len ws μ R X hF
  · obtain ⟨t, ht, hs⟩ := body cdv A outer s H E hr
    refine ⟨t, ht, ?_⟩
    obtain ⟨G, ws, μ, R, X, S0, r, hF, hQ, hE⟩ := h
    exact hs ws μ R X hF (L2.start N vs) G H ⟨S0, start_slots r⟩ (fun σ ε G' H' μ' cls d fs S' s' e c => hE cls d fs G' H' μ' S'.hold s' e c) _ ⟨fun σ' ε' G' H' μ' S' s' q => hQ .non .n G' H' μ' S'.hold s' Dr.non q, fun v w G' H' μ' S' s' rv q => hQ v w G' H' μ' S' s' rv q, fun _ _ _ _ _ _ _ z => z.elim, fun _ _ _ _ _ _ _ z => z.elim⟩
end
end Sn

/-! Sn, third part: exceptions. -/
namespace Sn
open PySem PySem.Spec PyProof.Rows L2
/-! ### facts of an exception class, as tests of the written part -/
def excCB (K : PySem.W.Frag) (D : Addr) : Bool :=
  decide (PySem.W.findIn K (.ref D) "__getattribute__" = some (some (.builtin "BaseException.__getattribute__"))) && (decide (PySem.W.findIn K (.ref D) "__getattr__" = some none) &&
  (decide (PySem.W.subIn K (.ref D) (.type "BaseException") = some true) && (PySem.W.hasDictIn K D && (decide (PySem.W.findIn K (.ref D) "__class__" = some (some (.builtin "object.__class__"))) &&
  (decide (PySem.W.specialIn K (.builtin "object.__class__") "__get__" = some (some (.builtin "getset_descriptor.__get__"))) && (decide (PySem.W.takesIn K (.builtin "object.__class__") = some true) && decide (PySem.W.mroIn K D (.type "object") = some true)))))))
theorem excCB_ok {K : PySem.W.Frag} {D : Addr} (h : excCB K D = true) : ExcC K D := by
  unfold excCB at h
  simp only [Bool.and_eq_true, decide_eq_true_eq] at h
  obtain ⟨h1, h2, h3, h4, h5, h6, h7, h8⟩ := h
  exact ⟨h1, h2, h3, h4, h5, h6, h7, h8⟩
theorem excC_xf {K : PySem.W.Frag} {D : Addr} (h : ExcC K D) : XfC K D := ⟨h.hg, h.hk, h.hs, h.hd⟩
def oexB (K : PySem.W.Frag) (C : Addr) : Bool :=
  (match K.lookup C with
  | some ⟨.type c, _, .cls cd, sl⟩ => decide (c = "type") && ((match cd.mro with
    | .ref C' :: bm => decide (C' = C) && PySem.HandSPX.refsVE bm
    | _ => false) && (cd.hasDict && (!cd.hasDel && (match sl.toList with
    | [_, _, _, _, some (.builtin n), _] => decide (n = "ValueError.__new__")
    | _ => false))))
  | _ => false) && (decide (PySem.W.findIn K (.ref C) "__setattr__" = some (some (.builtin "object.__setattr__"))) && (decide (PySem.W.subIn K (.ref C) (.type "BaseException") = some true) &&
    (decide (PySem.W.typeIn K (.ref C) = some (.type "type")) && PySem.W.keepIn K (.ref C))))
theorem oexB_ok {K : PySem.W.Frag} {C : Addr} (h : oexB K C = true) : OexC K C := by
  unfold oexB at h
  rw [Bool.and_eq_true] at h
  obtain ⟨h0, h⟩ := h
  simp only [Bool.and_eq_true, decide_eq_true_eq] at h
  obtain ⟨h1, h2, h3, h4⟩ := h
  refine ⟨?_, h1, h2, h3, h4⟩
  split at h0
  · rename_i c dd cd sl e
    simp only [Bool.and_eq_true, decide_eq_true_eq, Bool.not_eq_true'] at h0
    obtain ⟨rfl, a1, a2, a3, a4⟩ := h0
    obtain ⟨nm, bs, mro, ns, qn, hd, sn, sub, ab, col, hdel⟩ := cd
    dsimp only at a1 a2 a3 a4
    subst a2 a3
    split at a1
    · rename_i C' bm
      simp only [Bool.and_eq_true, decide_eq_true_eq] at a1
      obtain ⟨rfl, a1⟩ := a1
      split at a4
      · rename_i k0 k1 k2 k3 n k5 hl
        have e5 : n = "ValueError.__new__" := of_decide_eq_true a4
        subst e5
        have es : sl = #[k0, k1, k2, k3, some (.builtin "ValueError.__new__"), k5] := by
          rw [← Array.toArray_toList (xs := sl), hl]
        subst es
        exact ⟨nm, qn, ns, bs, bm, sn, sub, ab, col, dd, k0, k1, k2, k3, k5, e, a1⟩
      · cases a4
    · cases a1
  · cases h0
/-! ### making and raising -/
section
variable {X : Cx}
/-- X(), X an own class without an own __init__ -/
theorem pmk_own0 {C : Addr} {bmB : List Value} {B newId initId : String} {x : Str} {p pos : Pos} (F : ExcBaseFacts B newId initId bmB) (q : PySem.W.excIn X.K C bmB newId = true) (gC : X.mg x = some (.ref C)) (kC : PySem.W.keepIn X.K (.ref C) = true)
    (r : Raises X (.ref C)) (hg : Gl X x) (hdb : (x == ("__debug__" : Str)) = false := by decide) : PMk X (.Call (.Name x p) [] [] pos) (fun _ H Q => Q (.ref C) none H) := by
  intro pins s σ H Q I h
  refine wpAny_Call_Name_kw (ld_glob I hg gC (PySem.W.callWith_K0 I.kIn kC ?_) hdb)
  obtain ⟨bm, N, nm, qn, bs, hdct, sn, sub, ab, col, dd, k0, k1, k2, k3, k5, mN, hC, hN, hni, T⟩ := exc_obj I.kIn q
  exact wpAny_call_exc_subT F T hC hN hni (fun h' e hm => mk_of I hm r h (I.hok.gone hm.new)) (Nat.zero_le _)
theorem ps_raise0 {C : Addr} {x : Str} {W : WX} {p pos pos2 : Pos} (hc : X.calm = true) (tk : Takes X W) (q : PySem.W.excIn X.K C He.veBase "ValueError.__new__" = true) (gC : X.mg x = some (.ref C)) (kC : PySem.W.keepIn X.K (.ref C) = true)
    (h1 : PySem.W.subIn X.K (.ref C) (.type "BaseException") = some true) (h2 : PySem.W.typeIn X.K (.ref C) = some (.type "type")) (hg : Gl X x) (hdb : (x == ("__debug__" : Str)) = false := by decide) :
    PS X (.Raise (some (.Call (.Name x p) [] [] pos)) none pos2) (fun _ σ H => W (.ref C) none σ H) := ps_raise hc tk (pmk_own0 PySem.F.excBase_ValueError q gC kC (raises_own h1 h2) hg hdb)
end
/-- raise C() -/
def tRs0 (C : Addr) (W : WX) : TS := fun _ σ H => W (.ref C) none σ H
theorem rs_raise0 {E : En} {C : Addr} {ε : Ep} {μ : Mu} {Φ : Fi} (h : E.χ ε (.ref C) [] μ) : RS E (tRs0 C E.W) ε μ Φ := fun σ G H S X D T => X σ ε G H μ _ _ _ S (.refl μ G H) (.inl ⟨rfl, rfl⟩) h
/-! #### classes whose __init__ keeps one field, two fields -/
/-- __init__(self, f): self.f = f -/
def spIn1 (K : PySem.W.Frag) (f : Str) : Sp := fun vs H Q _ => ∃ (a C : Addr) (v : V), vs = [.ref a, v] ∧ OexC K C ∧ PySem.W.findIn K (.ref C) f = some none ∧ H a = some (exo a C none) ∧
  ∀ d, H d = none → d ≠ a → Q .non (upd (upd H d (exd d [(f, v)])) a (exo a C (some d)))
def spIn2 (K : PySem.W.Frag) (f g : Str) : Sp := fun vs H Q _ => ∃ (a C : Addr) (v u : V), vs = [.ref a, v, u] ∧ OexC K C ∧ PySem.W.findIn K (.ref C) f = some none ∧ PySem.W.findIn K (.ref C) g = some none ∧ H a = some (exo a C none) ∧
  ∀ d, H d = none → d ≠ a → Q .non (upd (upd (upd H d (exd d [(f, v)])) a (exo a C (some d))) d (exd d [(g, u), (f, v)]))
section
variable {P : Program} {w : World} {K : PySem.W.Frag} {mg : Str → Option Value} {base : Heap} {st : Stmt} {q f g : Str} {fI : Addr} {fd : FuncData}
theorem init1_ok (D : FunD K "__init__" q (defArgs st) (defBody st) (defScope st) [] [] fI fd) (S : FnScope ["self", f] ["self", f] (defScope st))
    (hb : ∀ (cdv : Value) (A : Around) (outer : List Env) (s : Shared) (H : Hp) (E : XK), PSs (cxOf CX0 P w K mg base ["self", f] q (defScope st) fI cdv A outer s H E).nox (defBody st) (tOst K f (tVar 0) (tVar 1))) : FnOk P w K mg base CX0 1 fI fd ["self", f] (spIn1 K f) := by
  refine D.ok S (fun vs H Q E h => ?_) fun cdv A outer s H vs Q E hr h => ⟨_, (hb cdv A outer s H E).nox, ?_⟩
  · obtain ⟨a, C, v, rfl, _⟩ := h
    rfl
  · obtain ⟨a, C, v, rfl, T, hf, ha, k⟩ := h
    exact ⟨v, rfl, _, rfl, a, C, rfl, T, hf, .inl ⟨ha, fun d hd hn => k d hd hn⟩⟩
theorem init2_ok (D : FunD K "__init__" q (defArgs st) (defBody st) (defScope st) [] [] fI fd) (S : FnScope ["self", f, g] ["self", f, g] (defScope st))
    (hb : ∀ (cdv : Value) (A : Around) (outer : List Env) (s : Shared) (H : Hp) (E : XK), PSs (cxOf CX0 P w K mg base ["self", f, g] q (defScope st) fI cdv A outer s H E).nox (defBody st) (tSeq (tOst K f (tVar 0) (tVar 1)) (tOst K g (tVar 0) (tVar 2)))) : FnOk P w K mg base CX0 1 fI fd ["self", f, g] (spIn2 K f g) := by
  refine D.ok S (fun vs H Q E h => ?_) fun cdv A outer s H vs Q E hr h => ⟨_, (hb cdv A outer s H E).nox, ?_⟩
  · obtain ⟨a, C, v, u, rfl, _⟩ := h
    rfl
  · obtain ⟨a, C, v, u, rfl, T, hf, hg, ha, k⟩ := h
    refine ⟨v, rfl, _, rfl, a, C, rfl, T, hf, .inl ⟨ha, fun d hd hn => ?_⟩⟩
    refine ⟨u, rfl, _, rfl, a, C, rfl, T, hg, .inr ⟨d, [(f, v)], upd_same, by rw [upd_ne hn, upd_same], by show 1 ≤ 900; decide, k d hd hn⟩⟩
end
/-- the heap behind the making: the own dict alone is new -/
theorem mk_heap1 {H : Hp} {a d : Addr} {o1 o2 o3 o4 : HO} (ha : H a = none) (hd : d ≠ a) : upd (del (upd (upd (upd H a o1) d o2) a o3) a) d o4 = upd H d o4 := by
  funext b
  unfold upd del
  by_cases h1 : b = d
  · simp [h1]
  · by_cases h2 : b = a
    · subst h2; simp [h1, ha]
    · simp [h1, h2]
theorem mk_heap2 {H : Hp} {a d : Addr} {o1 o2 o3 o4 o5 : HO} (ha : H a = none) (hd : d ≠ a) : upd (del (upd (upd (upd (upd H a o1) d o2) a o3) d o4) a) d o5 = upd H d o5 := by
  funext b
  unfold upd del
  by_cases h1 : b = d
  · simp [h1]
  · by_cases h2 : b = a
    · subst h2; simp [h1, ha]
    · simp [h1, h2]
/-- raise C(e), C's __init__ keeping the one field f -/
def tRs1 (K : PySem.W.Frag) (C : Addr) (f : Str) (ta : TA) (W : WX) : TS := fun _ σ H => tMkO C (spIn1 K f) [] ta σ H fun cls d H' => W cls d σ H'
def tRs2 (K : PySem.W.Frag) (C : Addr) (f g : Str) (ta : TA) (W : WX) : TS := fun _ σ H => tMkO C (spIn2 K f g) [] ta σ H fun cls d H' => W cls d σ H'
theorem Hold.beside {K : PySem.W.Frag} {G H : Hp} {μ : Mu} {p : Addr} {o : HO} (S : Hold K G H μ) (hp : H p = none) : Hold K G (upd H p o) μ :=
  ⟨S.gh.trans (ex_new hp), S.nd, fun q hq => by
    obtain ⟨h1, u, h2, h3⟩ := S.at_ q hq
    exact ⟨h1, u, by rw [upd_ne (S.ne hq hp)]; exact h2, h3⟩⟩
theorem Since.beside {K : PySem.W.Frag} {G H : Hp} {μ : Mu} {p : Addr} {o : HO} (S : Hold K G H μ) (hp : H p = none) : Since μ G H G (upd H p o) μ where
  gg := Evl.Ex.refl G
  keep := fun a u h _ => by rw [upd_ne (ne_of_none h hp)]; exact h
  there := fun a h => by
    by_cases e : a = p
    · subst e; rw [upd_same]; simp
    · rw [upd_ne e]; exact h
  new := fun _ _ => rfl
  own := fun q hq => .inl (List.mem_map_of_mem hq)
section
variable {E : En} {C : Addr} {f g : Str} {ε : Ep} {μ : Mu} {Φ : Fi} {tA : TA} {d1 d2 : D}
theorem rs_raise1 (T : OexC E.K C) (hf : PySem.W.findIn E.K (.ref C) f = some none) (h : RA E tA ε μ fun ws μ' => ∃ d, ws = [.dat d] ∧ E.χ ε (.ref C) [(f, d)] μ') : RS E (tRs1 E.K C f tA E.W) ε μ Φ := fun σ G H S X D T' => h σ G H S X _ fun vs ws G1 H1 μ1 S1 s1 r ⟨d1, e, hx⟩ => by
  subst e
  cases r with
  | @cons v _ _ _ r r2 =>
    cases r2
    refine ⟨by show 1 ≤ 1000; decide, fun a ha => ⟨a, C, v, rfl, T, hf, upd_same, fun d hd hn => ⟨rfl, d, [(f, v)], upd_same, by rw [upd_ne hn, upd_same], ?_, ?_⟩⟩⟩
    · rw [upd_ne hn] at hd; exact hd
    · have hd' : H1 d = none := by rw [upd_ne hn] at hd; exact hd
      rw [mk_heap1 ha hn]
      have n0 : H d = none := by
        cases q : H d with
        | none => rfl
        | some o => exact absurd hd' (s1.there d (by rw [q]; simp))
      have s2 := s1.trans (Since.beside (o := .xd [(f, v)]) S1 hd')
      exact X σ ε G1 _ μ1 _ _ [(f, d1)] (S.to (S1.beside hd') s2) s2 (.inr ⟨d, _, rfl, n0, upd_same, .cons r .nil⟩) hx
theorem rs_raise2 (T : OexC E.K C) (hf : PySem.W.findIn E.K (.ref C) f = some none) (hg : PySem.W.findIn E.K (.ref C) g = some none) (h : RA E tA ε μ fun ws μ' => ∃ d1 d2, ws = [.dat d1, .dat d2] ∧ E.χ ε (.ref C) [(g, d2), (f, d1)] μ') : RS E (tRs2 E.K C f g tA E.W) ε μ Φ := fun σ G H S X D T' => h σ G H S X _ fun vs ws G1 H1 μ1 S1 s1 r ⟨d1, d2, e, hx⟩ => by
  subst e
  cases r with
  | @cons v _ _ _ r r2 =>
    cases r2 with
    | @cons u _ _ _ r2 r3 =>
      cases r3
      refine ⟨by show 2 ≤ 1000; decide, fun a ha => ⟨a, C, v, u, rfl, T, hf, hg, upd_same, fun d hd hn => ⟨rfl, d, [(g, u), (f, v)], ?_, upd_same, ?_, ?_⟩⟩⟩
      · rw [upd_ne (Ne.symm hn), upd_same]
      · rw [upd_ne hn] at hd; exact hd
      · have hd' : H1 d = none := by rw [upd_ne hn] at hd; exact hd
        rw [mk_heap2 ha hn]
        have n0 : H d = none := by
          cases q : H d with
          | none => rfl
          | some o => exact absurd hd' (s1.there d (by rw [q]; simp))
        have s2 := s1.trans (Since.beside (o := .xd [(g, u), (f, v)]) S1 hd')
        exact X σ ε G1 _ μ1 _ _ [(g, d2), (f, d1)] (S.to (S1.beside hd') s2) s2 (.inr ⟨d, _, rfl, n0, upd_same, .cons r2 (.cons r .nil)⟩) hx
end
section
variable {X : Cx} {W : WX} {x f g q : Str} {C fI : Addr} {fd : FuncData} {ta : TA} {e : Expr} {es : List Expr} {p pos pos2 : Pos} {k : Nat}
/-- what a class with such an __init__ tells -/
structure XC1 (P : Program) (w : World) (K : PySem.W.Frag) (mg : Str → Option Value) (base : Heap) (x f : Str) (C : Addr) : Prop where
  gl : mg x = some (.ref C)
  ox : OexC K C
  no : PySem.W.findIn K (.ref C) f = some none
  ini : ∃ (fI : Addr) (fd : FuncData), PySem.W.findIn K (.ref C) "__init__" = some (some (.ref fI)) ∧ PySem.W.typeIn K (.ref fI) = some (.type "function") ∧ Binds K fd ["self", f] [] ∧ FnOk P w K mg base CX0 1 fI fd ["self", f] (spIn1 K f)
structure XC2 (P : Program) (w : World) (K : PySem.W.Frag) (mg : Str → Option Value) (base : Heap) (x f g : Str) (C : Addr) : Prop where
  gl : mg x = some (.ref C)
  ox : OexC K C
  no : PySem.W.findIn K (.ref C) f = some none
  no2 : PySem.W.findIn K (.ref C) g = some none
  ini : ∃ (fI : Addr) (fd : FuncData), PySem.W.findIn K (.ref C) "__init__" = some (some (.ref fI)) ∧ PySem.W.typeIn K (.ref fI) = some (.type "function") ∧ Binds K fd ["self", f, g] [] ∧ FnOk P w K mg base CX0 1 fI fd ["self", f, g] (spIn2 K f g)
theorem ps_raise1 (T : XC1 X.prog X.w X.K X.mg X.base x f C) (hc : X.calm = true) (tk : Takes X W) (hr : Room k X.A) (h2 : 2 ≤ k) (hg : Gl X x) (ha : PA X (e :: es) ta) (hdb : (x == ("__debug__" : Str)) = false := by decide)
    (he : starEach (e :: es) X.env = (false, eval e X.env) :: starEach es X.env := by rfl) (hpl : (backTo pos (starEach es X.env)).any (·.1) = false := by rfl) :
    PS X (.Raise (some (.Call (.Name x p) (e :: es) [] pos)) none pos2) (tRs1 X.K C f ta W) := by
  obtain ⟨fI, fd, h1, h2', h3, h4⟩ := T.ini
  exact ps_raise hc tk (pmk_oex T.ox h1 h2' h4 (hr.mono h2) h3 .nil (fun _ _ _ _ _ _ _ z => z.elim) hg T.gl ha hdb he hpl)
theorem ps_raise2 (T : XC2 X.prog X.w X.K X.mg X.base x f g C) (hc : X.calm = true) (tk : Takes X W) (hr : Room k X.A) (h2 : 2 ≤ k) (hg : Gl X x) (ha : PA X (e :: es) ta) (hdb : (x == ("__debug__" : Str)) = false := by decide)
    (he : starEach (e :: es) X.env = (false, eval e X.env) :: starEach es X.env := by rfl) (hpl : (backTo pos (starEach es X.env)).any (·.1) = false := by rfl) :
    PS X (.Raise (some (.Call (.Name x p) (e :: es) [] pos)) none pos2) (tRs2 X.K C f g ta W) := by
  obtain ⟨fI, fd, h1, h2', h3, h4⟩ := T.ini
  exact ps_raise hc tk (pmk_oex T.ox h1 h2' h4 (hr.mono h2) h3 .nil (fun _ _ _ _ _ _ _ z => z.elim) hg T.gl ha hdb he hpl)
end
end Sn

/-! Sn, fourth part: try with several clauses, some of them named. -/
namespace Sn
open PySem PySem.Spec PyProof.Rows L2
/-- a clause: its class, the slot of its name, its suite -/
abbrev Cl := Value × Option Nat × (Addr → Value → Option Addr → TS)
def outE (D : Ends) : Option Nat → Ends
  | none => D
  | some i => ⟨fun σ H => D.nx (σ.set i none) H, D.rt, fun σ H => D.bk (σ.set i none) H, fun σ H => D.ct (σ.set i none) H⟩
def inSl (σ : L2.St) (a : Addr) : Option Nat → L2.St
  | none => σ
  | some i => σ.set i (some (.ref a))
def wCl (K : PySem.W.Frag) (Wo : WX) (D : Ends) : List Cl → WX
  | [] => Wo
  | (c, i, ts) :: r => fun cls d σ H => ∃ b, PySem.W.exmOne K cls c = some b ∧ (b = true → ∀ a, H a = none → ts a cls d (outE D i) (inSl σ a i) H) ∧ (b = false → wCl K Wo D r cls d σ H)
inductive ClOk (X : Cx) : List ExceptHandler → List Cl → Prop
  | nil : ClOk X [] []
  | plain {x : Str} {c : Value} {ts : Addr → Value → Option Addr → TS} {b₀ : Stmt} {suite : List Stmt} {np pos' : Pos} {hds : List ExceptHandler} {l : List Cl} (hc : Names X x c)
      (hsu : ∀ (a : Addr) (oe : Obj) (cls : Value) (d : Option Addr) (pn : List (Addr × Obj)), Zc cls d oe → (∃ vs, oe.data = .fields vs) → PSs (X.suite a ((a, oe) :: pn)) (b₀ :: suite) (ts a cls d)) (r : ClOk X hds l) :
      ClOk X (.ExceptHandler (some (.Name x np)) none (b₀ :: suite) pos' :: hds) ((c, none, ts) :: l)
  | named {x n : Str} {i : Nat} {c : Value} {ts : Addr → Value → Option Addr → TS} {b₀ : Stmt} {suite : List Stmt} {np pos' : Pos} {hds : List ExceptHandler} {l : List Cl} (hc : Names X x c) (hi : X.N[i]? = some n) (hln : X.env.kindOf n = some .local)
      (hsu : ∀ (a : Addr) (oe : Obj) (cls : Value) (d : Option Addr) (pn : List (Addr × Obj)), Zc cls d oe → (∃ vs, oe.data = .fields vs) → PSs (X.suite a ((a, oe) :: pn)) (b₀ :: suite) (ts a cls d)) (r : ClOk X hds l) :
      ClOk X (.ExceptHandler (some (.Name x np)) (some n) (b₀ :: suite) pos' :: hds) ((c, some i, ts) :: l)
section
variable {X : Cx} {body : List Stmt} {h₀ : ExceptHandler} {hds : List ExceptHandler} {l : List Cl} {pos : Pos} {tb : WX → TS} {Wo : WX}
theorem ps_try (hs : X.stack = X.env :: X.outer) (hf : X.env.frame = some X.env.locals) (hN : X.N.Nodup) (tk : Takes X Wo)
    (hb : ∀ (W : WX) (pn : List (Addr × Obj)) (xe : Value → Shared → Prop), Takes (X.tr pn xe) W → PassesOwn (model X.prog X.w) X.A X.env xe → PSs (X.tr pn xe) body (tb W))
    (hh : ClOk X (h₀ :: hds) l) : PS X (.Try body (h₀ :: hds) [] [] pos) (fun D σ H => tb (wCl X.K Wo D l) D σ H) := by
  refine ⟨fun pins s σ H D I h => ?_⟩
  have ok := I.ok
  have hfr : X.A.frames = some (X.env :: X.outer) := hs ▸ ok.frames
  refine wpAny_Try_except (wpAny_mono ((hb (wCl X.K Wo D l) (X.pn ++ pins) (fun e t1 =>
    wpAny (model X.prog X.w) X.A (noteFrame e X.env) (fun _ t2 => wpAny (model X.prog X.w) X.A (setFlight e none)
      (fun _ t3 => wpAny (model X.prog X.w) X.A (handleBy e X.env (h₀ :: hds)) (SP X pins D) X.xe t3) X.xe t2) X.xe t1)
    (fun u s' xx => ?_) PassesOwn.looking).run [] s σ H D (I.toTry _) h) (fun f s1 q1 => ?_) (fun _ _ q1 => q1))
  · obtain ⟨a, B, sI, pins', σ', H', cls, d, rfl, J', nb, up, sky, na, os, ag, w⟩ := xx
    have J := J'.ofTry ok
    show wpAny (model X.prog X.w) X.A (noteFrame (.ref a) X.env) _ _ _
    refine Sky.land Zc.steady hfr hf (by rw [← hs]; exact sky) fun g3 fl up3 => ?_
    have J3 : Inv X pins σ' H' { s' with heap := g3 } := J.landed nb fl.1 (up.trans up3) os ag
    obtain ⟨oe, vs, he, hz, hd⟩ := fl.there
    have far : a ∉ frs (X.env :: X.outer) := fun hm => by
      obtain ⟨_, o', e', hnf⟩ := fl.2.2.1.mem hm
      rw [he] at e'
      cases e'
      exact hnf _ hd
    have nL : a ≠ X.env.locals := fun z => far (List.mem_filterMap.mpr ⟨X.env, List.mem_cons_self, by rw [hf, z]⟩)
    have nF : a ∉ X.fs := fun hm => by
      obtain ⟨y, hy, q⟩ := List.mem_filterMap.mp hm
      exact far (List.mem_filterMap.mpr ⟨y, List.mem_cons_of_mem _ hy, q⟩)
    have S3 := J3.suite he hd na nL nF
    have tst : ∀ {x : Str} {c : Value} {np : Pos} {Q : Value → Shared → Prop} {E : Value → Shared → Prop}, Names X x c → Q c { s' with heap := g3 } →
        wpAny (model X.prog X.w) (X.A.mark (some (.ref a))) (eval (.Name x np) X.env) Q E { s' with heap := g3 } := fun {x c np Q E} hc q => by
      obtain ⟨hg, hdb, hm | ⟨hm, hv, hnn⟩⟩ := hc
      · exact ld_glob (X := X.suite a ((a, oe) :: (X.pn ++ pins))) S3 hg hm q hdb
      · exact ld_blt (X := X.suite a ((a, oe) :: (X.pn ++ pins))) S3 hg hm hv q hnn hdb
    have ty : PySem.W.Looks (model X.prog X.w) g3 (typeOf (.ref a)) cls := fun A Q E s k q => wpAny_typeOf_ref (k _ _ he) (by rw [hz.1]; exact q)
    have go : ∀ {h2 : List ExceptHandler} {l2 : List Cl}, ClOk X h2 l2 → wCl X.K Wo D l2 cls d σ' H' →
        wpAny (model X.prog X.w) X.A (handleBy (.ref a) X.env h2) (SP X pins D) X.xe { s' with heap := g3 } := fun {h2 l2} hk => by
      induction hk with
      | nil =>
        intro w
        refine wpAny_handleBy_nil ?_
        have fin : wpAny (model X.prog X.w) X.A (setFlight (.ref a) X.env.frame) (fun _ t4 => wpAny (model X.prog X.w) X.A (throw (.ref a) : Sem Flow) (SP X pins D) X.xe t4) X.xe { s' with heap := g3 } := by
          rw [hf]
          exact HandSPX.setFlight_upZ fl fun g4 hh4 up4 => wpAny_throw (tk _ _ ⟨a, B, sI, pins, σ', H', cls, d, rfl, J, nb, (up.trans up3).trans up4, .inr (.inr (by rw [hs]; exact hh4)), na, os, ag, w⟩)
        obtain ⟨_, _, _, oe', vs', T, _, _, he', _, hd', h1, _⟩ := id fl
        unfold PySem.passOn
        refine wpAny_bind (wpAny_field he' hd' h1 ?_)
        rw [if_neg (show ¬ ((Value.ref T == Value.none) = true) by simp)]
        first | exact wpAny_bind (wpAny_pure (wpAny_bind fin)) | exact wpAny_bind fin
      | plain hc hsu r ih =>
        intro w
        obtain ⟨b, hb1, hy, hn⟩ := w
        refine wpAny_handleBy_cons (codeAny_handlers_test (tst hc ((PySem.W.exm_one (M := model X.prog X.w) J3.kIn ty hb1).here ?_))) (by intro q; cases q)
        cases b with
        | false => exact ih (hn rfl)
        | true =>
          refine codeAny_handlers_suite (HandSPX.lands_againZ fl fun g4 fl4 up4 => ?_)
          have J4 : Inv X pins σ' H' { s' with heap := g4 } := J.landed nb fl4.1 ((up.trans up3).trans up4) os ag
          obtain ⟨oe4, vs4, he4, hz4, hd4⟩ := fl4.there
          refine wpAny_mono ((hsu a oe4 cls d (X.pn ++ pins) hz4 ⟨_, hd4⟩).run [] _ _ H' _ (J4.suite he4 hd4 na nL nF) (hy rfl a na)) (fun f s6 hsp => ?_) (fun _ _ z => False.elim z)
          cases f with
          | next => exact hsp.elim fun σ6 hsp => hsp.elim fun H6 hsp => ⟨σ6, H6, hsp.1.unsuite ok, hsp.2⟩
          | brk => exact hsp.elim fun σ6 hsp => hsp.elim fun H6 hsp => ⟨σ6, H6, hsp.1.unsuite ok, hsp.2⟩
          | cont => exact hsp.elim fun σ6 hsp => hsp.elim fun H6 hsp => ⟨σ6, H6, hsp.1.unsuite ok, hsp.2⟩
          | ret u =>
            obtain ⟨v6, σ6, H6, S6, r6, q6⟩ := hsp
            exact ⟨v6, σ6, H6, S6.unsuite ok, r6, q6⟩
      | named hc hi hln hsu r ih =>
        intro w
        obtain ⟨b, hb1, hy, hn⟩ := w
        refine wpAny_handleBy_cons (codeAny_handlers_test (tst hc ((PySem.W.exm_one (M := model X.prog X.w) J3.kIn ty hb1).here ?_))) (by intro q; cases q)
        cases b with
        | false => exact ih (hn rfl)
        | true =>
          refine codeAny_handlers_suite_as (HandSPX.lands_againZ fl fun g4 fl4 up4 => ?_)
          have J4 : Inv X pins σ' H' { s' with heap := g4 } := J.landed nb fl4.1 ((up.trans up3).trans up4) os ag
          obtain ⟨oe4, vs4, he4, hz4, hd4⟩ := fl4.there
          refine store_ok (X := X.suite a ((a, oe4) :: (X.pn ++ pins))) (v := .ref a) (J4.suite he4 hd4 na nL nF) hN hi (.inl hln) rfl (fun s5 S5 => ?_) (.inr hln)
          refine wpAny_mono ((hsu a oe4 cls d (X.pn ++ pins) hz4 ⟨_, hd4⟩).run [] s5 _ H' _ S5 (hy rfl a na)) (fun f s6 hsp => ?_) (fun _ _ z => False.elim z)
          cases f with
          | next => exact hsp.elim fun σ6 hsp => hsp.elim fun H6 hsp => gone_ok (hsp.1.unsuite ok) hN hi hln fun s7 J7 => ⟨_, _, J7, hsp.2⟩
          | brk => exact hsp.elim fun σ6 hsp => hsp.elim fun H6 hsp => gone_ok (hsp.1.unsuite ok) hN hi hln fun s7 J7 => ⟨_, _, J7, hsp.2⟩
          | cont => exact hsp.elim fun σ6 hsp => hsp.elim fun H6 hsp => gone_ok (hsp.1.unsuite ok) hN hi hln fun s7 J7 => ⟨_, _, J7, hsp.2⟩
          | ret u =>
            obtain ⟨v6, σ6, H6, S6, r6, q6⟩ := hsp
            exact gone_ok (S6.unsuite ok) hN hi hln fun s7 J7 => ⟨_, _, _, J7, r6, q6⟩
    exact go hh w
  · cases f with
    | next => exact q1.elim fun σ' q1 => q1.elim fun H' q1 => wpAny_execs_nil ⟨σ', H', q1.1.ofTry ok, q1.2⟩
    | brk => exact q1.elim fun σ' q1 => q1.elim fun H' q1 => ⟨σ', H', q1.1.ofTry ok, q1.2⟩
    | cont => exact q1.elim fun σ' q1 => q1.elim fun H' q1 => ⟨σ', H', q1.1.ofTry ok, q1.2⟩
    | ret u =>
      obtain ⟨v, σ', H', J', r, q⟩ := q1
      exact ⟨v, σ', H', J'.ofTry ok, r, q⟩
end
/-! ### the reading at the level of data -/
/-- in a suite nothing is let out -/
abbrev En.mute (E : En) : En := ⟨E.K, fun _ _ _ _ => False, fun _ _ _ _ => False⟩
def inEp (ε : Ep) (a : Addr) (d : Option Addr) (fs : List (Str × D)) : Option Nat → Ep
  | none => ε
  | some i => ε.set i (some (.dat (.exc a d fs)))
def outΦ (Φ : Fi) : Option Nat → Fi
  | none => Φ
  | some i => ⟨fun ε μ => Φ.nx (ε.set i none) μ, Φ.rt, fun ε μ => Φ.bk (ε.set i none) μ, fun ε μ => Φ.ct (ε.set i none) μ⟩
/-- what the clauses do with an exception -/
def HCl (E : En) : List Cl → Ep → Value → List (Str × D) → Mu → Fi → Prop
  | [], ε, cls, fs, μ, _ => E.χ ε cls fs μ
  | (c, i, ts) :: r, ε, cls, fs, μ, Φ => ∃ b, PySem.W.exmOne E.K cls c = some b ∧ (b = true → ∀ (a : Addr) (d : Option Addr), RS E.mute (ts a cls d) (inEp ε a d fs i) μ (outΦ Φ i)) ∧ (b = false → HCl E r ε cls fs μ Φ)
theorem Slots.unset' {K : PySem.W.Frag} {G : Hp} {σ : L2.St} {ε : Ep} (h : Slots K G σ ε) (i : Nat) : Slots K G (σ.set i none) (ε.set i none) := h.unset i
theorem ties_out {E : En} {μ : Mu} {G H : Hp} {Φ : Fi} {D : Ends} (T : Ties E μ G H Φ D) : ∀ i, Ties E.mute μ G H (outΦ Φ i) (outE D i)
  | none => ⟨T.nx, T.rt, T.bk, T.ct⟩
  | some i => ⟨fun σ' ε' G' H' μ' S s q => T.nx _ _ G' H' μ' ⟨S.hold, S.slots.unset i⟩ s q, T.rt, fun σ' ε' G' H' μ' S s q => T.bk _ _ G' H' μ' ⟨S.hold, S.slots.unset i⟩ s q, fun σ' ε' G' H' μ' S s q => T.ct _ _ G' H' μ' ⟨S.hold, S.slots.unset i⟩ s q⟩
theorem slots_in {K : PySem.W.Frag} {G : Hp} {σ : L2.St} {ε : Ep} {a : Addr} {d : Option Addr} {fs : List (Str × D)} (h : Slots K G σ ε) (r : Dr K G (.ref a) (.exc a d fs)) : ∀ i, Slots K G (inSl σ a i) (inEp ε a d fs i)
  | none => h
  | some i => h.set i (show Wr K G (.ref a) (.dat (.exc a d fs)) from r)
/-- the own dict of a caught exception is frozen -/
theorem frz_exc {K : PySem.W.Frag} {G H : Hp} {μ : Mu} {p : Addr} {o : List (Str × V)} (S : Hold K G H μ) (hp : H p = some (.xd o)) (hg : G p = none) : Hold K (upd G p (.xd o)) H μ :=
  ⟨fun b u hb => by
    by_cases e : b = p
    · subst e; rw [upd_same] at hb; rw [hp]; exact hb
    · rw [upd_ne e] at hb; exact S.gh b u hb, S.nd, fun q hq => by
    obtain ⟨h1, u, h2, h3⟩ := S.at_ q hq
    have n : q.1 ≠ p := fun e => by
      rw [e, hp] at h2
      cases h2
      cases hc : q.2 with
      | lst ws => rw [hc] at h3; cases h3
    exact ⟨by rw [upd_ne n]; exact h1, u, h2, h3.up (ex_new hg)⟩⟩
theorem DrF.up {K : PySem.W.Frag} {G G' : Hp} {v : List (Str × V)} {d : List (Str × D)} (h : DrF K G v d) (e : Ex G G') : DrF K G' v d := DrF.mono e d v h
theorem rs_try {E : En} {tb : WX → TS} {l : List Cl} {ε : Ep} {μ : Mu} {Φ : Fi} (χ' : Ep → Value → List (Str × D) → Mu → Prop) (hb : ∀ W', RS ⟨E.K, W', χ'⟩ (tb W') ε μ Φ)
    (hh : ∀ ε' cls fs μ', χ' ε' cls fs μ' → HCl E l ε' cls fs μ' Φ) : RS E (fun D σ H => tb (wCl E.K E.W D l) D σ H) ε μ Φ := fun σ G H S X D T => by
  refine hb (wCl E.K E.W D l) σ G H S (fun σ' ε' G' H' μ' cls d fs S' s' e c => ?_) D ⟨T.nx, T.rt, T.bk, T.ct⟩
  have go : ∀ l', HCl E l' ε' cls fs μ' Φ → wCl E.K E.W D l' cls d σ' H' := fun l' => by
    induction l' with
    | nil => exact fun hq => X σ' ε' G' H' μ' cls d fs S' s' e hq
    | cons c r ih =>
      obtain ⟨c, i, ts⟩ := c
      intro hq
      obtain ⟨b, h1, h2, h3⟩ := hq
      refine ⟨b, h1, fun hb => fun a ha => ?_, fun hb => ih (h3 hb)⟩
      have h2 := h2 hb a d
      rcases e with ⟨rfl, rfl⟩ | ⟨dd, vfs, rfl, hn, hx, rf⟩
      · exact h2 _ G' H' ⟨S'.hold, slots_in S'.slots (.exc0 a) i⟩ (fun _ _ _ _ _ _ _ _ _ _ _ z => z.elim) _ (ties_out (T.to s') i)
      · cases hg : G' dd with
        | none =>
          have S2 := frz_exc S'.hold hx hg
          have e2 : Ex G' (upd G' dd (.xd vfs)) := ex_new hg
          have s2 : Since μ G H (upd G' dd (.xd vfs)) H' μ' := ⟨s'.gg.trans e2, s'.keep, s'.there, fun b hb => by rw [upd_ne (fun z => hb (by rw [z]; exact hn))]; exact s'.new b hb, s'.own⟩
          exact h2 _ (upd G' dd (.xd vfs)) H' ⟨S2, slots_in (S'.slots.up e2) (.exc1 a upd_same (rf.up e2)) i⟩ (fun _ _ _ _ _ _ _ _ _ _ _ z => z.elim) _ (ties_out (T.to s2) i)
        | some o =>
          have e1 := S'.hold.gh dd o hg
          rw [hx] at e1
          cases e1
          exact h2 _ G' H' ⟨S'.hold, slots_in S'.slots (.exc1 a hg rf) i⟩ (fun _ _ _ _ _ _ _ _ _ _ _ z => z.elim) _ (ties_out (T.to s') i)
  exact go l (hh ε' cls fs μ' c)
/-! ### in a suite: the caught exception's class and fields -/
def rIsX (K : PySem.W.Frag) (cls : Value) (d : Option Addr) (a : Addr) : List V → Hp → VK → Prop := fun xs H Q => ∃ (D : Addr) (c : V) (cv : Value) (b : Bool), cls = .ref D ∧ ExcC K D ∧ xs = [.ref a, c] ∧ (∀ u, RelV c u → u = cv) ∧ PySem.W.kitOne K (.ref D) cv = some b ∧
  (d = none ∨ ∃ dd fs, d = some dd ∧ H dd = some (.xd fs)) ∧ Q (.bl b) H
theorem call_isX {X : Cx} {a : Addr} {cls : Value} {d : Option Addr} {oe : Obj} {pn : List (Addr × Obj)} (hz : Zc cls d oe) (hf : ∃ vs, oe.data = .fields vs) : CallR (X.suite a ((a, oe) :: pn)) (.builtin "isinstance") (rIsX X.K cls d a) := by
  intro pins s σ H xs us Q I r h
  obtain ⟨D, c, cv, b, rfl, C, rfl, hcv, e, hdd, q⟩ := h
  cases r with
  | cons rx rr =>
    cases rr with
    | cons rt rr =>
      cases rr
      cases rx
      have ec := hcv _ rt
      subst ec
      obtain ⟨hget, _⟩ := I.pin (a, oe) (List.mem_append.mpr (.inl List.mem_cons_self))
      obtain ⟨vs, hv⟩ := hf
      have J : ∃ od, PySem.W.InstAt s.heap a oe D od := by
        obtain ⟨oc, oD, oda, osl⟩ := oe
        obtain ⟨h1, h2⟩ := hz
        dsimp only at h1 h2 hv
        subst h1 h2 hv
        rcases hdd with rfl | ⟨dd, fs, rfl, hx⟩
        · exact ⟨none, hget, rfl, rfl, trivial⟩
        · have hx' : ObjOk X.prog X.w H s.heap dd (.xd fs) := I.hok dd _ hx
          obtain ⟨mA, ⟨o, es, ep, ho, _⟩, _⟩ := hx'
          exact ⟨some o, hget, rfl, rfl, ho⟩
      obtain ⟨od, J⟩ := J
      have hcl : (PySem.W.clsIn X.K D).isSome = true := by
        obtain ⟨cd, hc, _⟩ := PySem.W.any_some C.hd
        rw [hc] <;> rfl
      exact PySem.W.kia_one (PySem.W.kitx_exc hcl C.hg C.hk C.hs C.ha C.hn C.ht C.hm) I.kIn J e (fun z => nomatch z) fun tk => ⟨.bl b, H, I.kept (t' := tk) fun _ _ z => z, rfl, q⟩
theorem Dr.exc_d {K : PySem.W.Frag} {G H : Hp} {a : Addr} {d : Option Addr} {fs : List (Str × D)} {v : V} (e : Ex G H) (r : Dr K G v (.exc a d fs)) : v = .ref a ∧ (d = none ∨ ∃ dd vfs, d = some dd ∧ H dd = some (.xd vfs)) := by
  cases r with
  | exc0 => exact ⟨rfl, .inl rfl⟩
  | exc1 _ h _ => exact ⟨rfl, .inr ⟨_, _, rfl, e _ _ h⟩⟩
section
variable {E : En} {ε : Ep} {μ : Mu} {a A C : Addr} {d : Option Addr} {fs : List (Str × D)} {b : Bool} {f : Str} {dv : D}
theorem vc_isX (T : ExcC E.K A) (h : PySem.W.kitOne E.K (.ref A) (.ref C) = some b) : VC E (rIsX E.K (.ref A) d a) [.dat (.exc a d fs), .dat (.cls C)] μ (.b b) := fun G H S vs rs Q q => by
  cases rs with
  | cons r t =>
    cases t with
    | cons r2 t =>
      cases t
      cases r2
      obtain ⟨rfl, hd⟩ := r.exc_d S.gh
      exact ⟨A, _, _, b, rfl, T, rfl, fun u hu => hu, h, hd, q _ (Dr.bl _)⟩
theorem vc_isXt {n : String} (T : ExcC E.K A) (h : PySem.W.kitOne E.K (.ref A) (.type n) = some b) : VC E (rIsX E.K (.ref A) d a) [.dat (.exc a d fs), .dat (.ty n)] μ (.b b) := fun G H S vs rs Q q => by
  cases rs with
  | cons r t =>
    cases t with
    | cons r2 t =>
      cases t
      cases r2
      obtain ⟨rfl, hd⟩ := r.exc_d S.gh
      exact ⟨A, _, _, b, rfl, T, rfl, fun u hu => hu, h, hd, q _ (Dr.bl _)⟩
theorem DrF.look {K : PySem.W.Frag} {G : Hp} : ∀ {vs : List (Str × V)} {ds : List (Str × D)}, DrF K G vs ds → ds.lookup f = some dv → ∃ v, vs.lookup f = some v ∧ Dr K G v dv
  | _, _, .nil, h => by cases h
  | _, _, .cons (x := x) (v := v) (d := d) r t, h => by
    rw [List.lookup_cons] at h ⊢
    cases e : f == x with
    | true =>
      rw [e] at h
      cases h
      exact ⟨v, rfl, r⟩
    | false =>
      rw [e] at h
      exact DrF.look t h
/-- bad.f, f a field that the own __init__ keeps -/
def tFx (a : Addr) (cls : Value) (d : Option Addr) (K : PySem.W.Frag) (f : Str) (te : TE) : TE := fun σ H Q => ∃ C, cls = .ref C ∧ XfC K C ∧ PySem.W.findIn K (.ref C) f = some none ∧ tXf a cls d C f te σ H Q
theorem pe_fx {X : Cx} {a : Addr} {oe : Obj} {cls : Value} {d : Option Addr} {pn : List (Addr × Obj)} {e : Expr} {te : TE} {pos : Pos} {n : Str} (hz : Zc cls d oe) (hf : ∃ vs, oe.data = .fields vs) (he : PE (X.suite a ((a, oe) :: pn)) e te)
    (hb : attributeBase e n X.env (eval e X.env) = eval e X.env := by rfl) : PE (X.suite a ((a, oe) :: pn)) (.Attribute e n pos) (tFx a cls d X.K n te) := by
  refine ⟨fun pins s σ H Q I h => ?_⟩
  obtain ⟨C, rfl, T, hno, h⟩ := h
  exact (pe_xf T hno hz hf he hb).run pins s σ H Q I h
theorem ve_fx {te : TE} (T : ExcC E.K A) (hno : PySem.W.findIn E.K (.ref A) f = some none) (he : VE E te ε μ (.dat (.exc a d fs))) (hl : fs.lookup f = some dv) : VE E (tFx a (.ref A) d E.K f te) ε μ (.dat dv) := fun σ G H S Q q =>
  ⟨A, rfl, excC_xf T, hno, he σ G H S _ fun v r => by
    cases r with
    | exc0 => cases hl
    | exc1 _ hx rf =>
      obtain ⟨v, h1, h2⟩ := rf.look hl
      exact ⟨rfl, rfl, _, _, v, rfl, S.hold.gh _ _ hx, h1, q v h2⟩⟩
end
end Sn

/-! Sn: sizes of ints by powers of two. -/
namespace Sn
open PySem L2
structure Bd (n : Nat) (i : Int) : Prop where
  lt : i.natAbs < 2 ^ n
theorem Bd.up {n m : Nat} {i : Int} (h : Bd n i) (l : n ≤ m) : Bd m i := ⟨Nat.lt_of_lt_of_le h.lt (Nat.pow_le_pow_right (by omega) l)⟩
theorem Bd.lit {i : Int} (h : decide (i.natAbs < 2 ^ 4000) = true) : Bd 4000 i := ⟨of_decide_eq_true h⟩
theorem Bd.om {i : Int} (h1 : -18446744073709551616 < i) (h2 : i < 18446744073709551616) : Bd 64 i := ⟨by
  show i.natAbs < 18446744073709551616
  omega⟩
theorem Bd.neg {n : Nat} {i : Int} (h : Bd n i) : Bd n (-i) := ⟨by rw [Int.natAbs_neg]; exact h.lt⟩
theorem Bd.mul {n m : Nat} {i j : Int} (h : Bd n i) (k : Bd m j) : Bd (n + m) (i * j) := ⟨by
  rw [Int.natAbs_mul, Nat.pow_add]
  exact Nat.mul_lt_mul'' h.lt k.lt⟩
theorem Bd.add {n m : Nat} {i j : Int} (h : Bd n i) (k : Bd m j) : Bd (n + m + 1) (i + j) := ⟨by
  have h1 := (h.up (m := n + m) (by omega)).lt
  have k1 := (k.up (m := n + m) (by omega)).lt
  rw [Nat.pow_succ]
  have := Int.natAbs_add_le i j
  omega⟩
theorem Bd.sub {n m : Nat} {i j : Int} (h : Bd n i) (k : Bd m j) : Bd (n + m + 1) (i - j) := by
  rw [Int.sub_eq_add_neg]; exact h.add k.neg
theorem Bd.log {n : Nat} {i : Int} (h : Bd n i) : i.natAbs.log2 ≤ n := by
  by_cases z : i.natAbs = 0
  · rw [z]; simp
  · exact Nat.le_of_lt ((Nat.log2_lt z).mpr h.lt)
theorem cmulw {n m : Nat} {i j : Int} (h : Bd n i) (k : Bd m j) (l : n + m < 1000000) : CMulW i j := by
  have h1 := h.log
  have h2 := k.log
  unfold CMulW
  omega
theorem cdivw {n : Nat} {i j : Int} (h0 : 0 < j) (h : Bd n j) (l : n < 9000) : CDivW i j := ⟨h0, Nat.lt_of_le_of_lt h.log l⟩
theorem cdivx {n : Nat} {i j : Int} (h0 : j ≠ 0) (h : Bd n j) (l : n < 9000) : CDivX i j := ⟨h0, Nat.lt_of_le_of_lt h.log l⟩
theorem Bd.le {n : Nat} {i j : Int} (h : Bd n j) (l : i.natAbs ≤ j.natAbs) : Bd n i := ⟨Nat.lt_of_le_of_lt l h.lt⟩
end Sn

/-! Sn: the head's facts with tests of one's own, constants of the module. -/
namespace Sn
open PySem PySem.Spec PyProof.Rows L2
def hookE (n : Nat) (fa : List He.Fa) (fn : List He.DefD) (ex : PySem.W.Frag → Bool) : PySem.W.Hook where
  α := Bool × He.AlD
  obs := fun s => (ex (He.frG s.heap.get? (He.asD s.heap.get? n)), He.obsDG n fa fn s.heap.get?)
  val := fun _ => (true, He.valD fn)
  says := fun _ h => ∃ K : PySem.W.Frag, K.In h ∧ ex K = true ∧ He.SaysD fa fn K
  of := fun _ _ e => ⟨_, He.frG_in, congrArg (fun z : Bool × He.AlD => z.1) e, congrArg (fun z : Bool × He.AlD => z.2) e⟩
  keeps := fun _ _ _ ⟨K, hK, c⟩ k => ⟨K, PySem.W.Frag.In.keeps hK k, c⟩
def obE (n : Nat) (fa : List He.Fa) (fn : List He.DefD) (ex : PySem.W.Frag → Bool) (g : Addr → Option Obj) : Bool × He.AlD := (ex (He.frG g (He.asD g n)), He.obsDG n fa fn g)
theorem obE_eq {n : Nat} {fa : List He.Fa} {fn : List He.DefD} {ex : PySem.W.Frag → Bool} {g : Addr → Option Obj} {s : Shared} (h : ∀ a, g a = s.heap.get? a) : obE n fa fn ex g = (hookE n fa fn ex).obs s := by
  have e : g = s.heap.get? := funext h
  rw [e] <;> rfl
/-! ### the law's end -/
theorem dra_ints {K : PySem.W.Frag} {G : Hp} : ∀ ns : List Int, DrA K G (ns.map V.int) (ns.map D.int)
  | [] => .nil
  | n :: r => .cons (.int n) (dra_ints r)
/-- a law's promise: True of every list of at most 63 ints -/
def fs_law : FS := fun ws μ R _ => ∃ ns : List Int, ws = [.dat (.lst (ns.map .int))] ∧ ns.length ≤ 63 ∧ μ = [] ∧ ∀ μ', R (.b true) μ'
theorem law_sp {K : PySem.W.Frag} {H : Hp} {a : Addr} {ns : List Int} (hl : ns.length ≤ 63) (h : SqL K H a (ns.map V.int)) : spF K fs_law [.ref a] H (fun v _ => v = .bl true) fun _ _ _ => False :=
  ⟨H, [.dat (.lst (ns.map .int))], [], fun w _ => w = .b true, fun _ _ _ => False, ⟨Evl.Ex.refl H, List.nodup_nil, fun q hq => by cases hq⟩, .cons (show Wr K H (.ref a) (.dat (.lst (ns.map .int))) from Dr.lst h (dra_ints ns)) .nil, ⟨ns, rfl, hl, rfl, fun _ => rfl⟩,
    fun v w G' H' μ' _ _ r e => by
      have e' : w = .b true := e
      subst e'
      cases r
      rfl, fun _ _ _ _ _ _ _ _ _ z => z⟩
theorem fn_one {P : Program} {w : World} {K : PySem.W.Frag} {mg : Str → Option Value} {h : Heap} {x : Str} {k : Nat} {y : Str} {F : FS} {f : Addr} (h0 : Fn P w K mg h x k [y] F) (hf : mg x = some (.ref f)) (hall : ∀ base : Heap, K.In base → base.Ns mainGlobals mg → Fn P w K mg base x k [y] F) :
    ∃ fd : FuncData, (∀ (s : Shared) (v : Value), BindsTo s fd ⟨[v], []⟩ [(y, v)]) ∧ ∀ base : Heap, K.In base → base.Ns mainGlobals mg → FnOk P w K mg base (L2.CX P w) k f fd [y] (spF K F) := by
  obtain ⟨f1, fd1, m1, _, b1, _, o1, l1, e1⟩ := h0.ex
  refine ⟨fd1, fun s v => b1 s [v] rfl, fun base kb gb => ?_⟩
  obtain ⟨f2, fd2, m2, _, _, F2, o2, l2, e2⟩ := (hall base kb gb).ex
  have q1 : f1 = f := by
    have z := m1.symm.trans hf
    cases z
    rfl
  have q2 : f2 = f := by
    have z := m2.symm.trans hf
    cases z
    rfl
  subst q1 q2
  have q3 : o1 = o2 := by
    have z := l1.symm.trans l2
    cases z
    rfl
  subst q3
  have q4 : fd1 = fd2 := by
    have z := e1.symm.trans e2
    cases z
    rfl
  rw [q4]
  exact F2
/-- the law's end: what is let out may hang on the world -/
theorem walk_w {l : PySem.W.OpenLaw} {k : Nat} {q : Program} {loose : List Str} {XP : (Str → Option Value) → Heap → Prop} {YP : World → Heap → Prop} {d : DefRec} (hn : l.most = some 63) (hdf : d.params.defaults = []) (hr : Room k callerA)
    (F : ∀ (w : World) (mg : Str → Option Value) (fa : Addr) (h : Heap), YP w h → h.Ns mainGlobals mg → mg d.name = some (.ref fa) → ∃ (K : PySem.W.Frag) (fd : FuncData), K.In h ∧ (∀ (s : Shared) (u : Value), BindsTo s fd ⟨[u], []⟩ [("script", u)]) ∧
      ∀ base : Heap, K.In base → base.Ns mainGlobals mg → FnOk l.prog w K mg base (L2.CX l.prog w) k fa fd ["script"] (spF K fs_law)) : PySem.W.WalkO q loose XP YP l.row.toRowW d [] (fun f vs => PySem.call f vs) :=
  Att.attach_call hn hdf fun w s₀ s₁ mg mb fa o pm cd doc a vs ns G Y ho hd hcd hmg hobj hints hlen hg => by
    obtain ⟨K, fd, KX, hb, hF⟩ := F w mg fa _ Y G.T.g hmg
    exact law_call KX G.T.g G.T.b G.T.builtins G.T.nolimit hg hobj hints (Nat.le_trans hlen (by decide)) hr hF hb (fun H _ hS => law_sp hlen hS) fun H e s' z => by
      obtain ⟨_, _, _, _, _, _, _, _, _, _, _, _, z⟩ := z
      exact z
/-! ### constants of the module -/
section
variable {X : Cx} {x : Str} {pos : Pos}
theorem pe_gi {i : Int} (h : ∃ t, X.mg x = some (.int i t)) (hg : Gl X x := by rfl) (hd : (x == ("__debug__" : Str)) = false := by decide) : PE X (.Name x pos) (tC (.int i)) := by
  obtain ⟨t, h⟩ := h
  exact pe_glob hg h ⟨t, rfl⟩ hd
theorem pe_gs {i : Str} (h : ∃ t, X.mg x = some (.str i t)) (hg : Gl X x := by rfl) (hd : (x == ("__debug__" : Str)) = false := by decide) : PE X (.Name x pos) (tC (.str i)) := by
  obtain ⟨t, h⟩ := h
  exact pe_glob hg h ⟨t, rfl⟩ hd
end
section
variable {E : En} {ε : Ep} {μ : Mu} {a : Addr}
theorem ve_cls : VE E (tC (.ref a)) ε μ (.dat (.cls a)) := fun _ _ _ _ _ q => q _ (Dr.cls a)
/-- a written tuple of ints -/
theorem ve_tupI {vs : List V} {ds : List D} (h : ∀ H, SqT E.K H a vs) (r : ∀ G, DrA E.K G vs ds) : VE E (tC (.ref a)) ε μ (.dat (.tup ds)) := fun σ G H S Q q => q _ (Dr.tup (h G) (r G))
end
/-! ### calls with keywords -/
section
variable {X : Cx} {k k' : Nat} {x : Str} {ps ks : List Str} {F : FS} {W : WX} {e : Expr} {es : List Expr} {kws : List Keyword} {t tk0 : TA} {p pos : Pos} {g : List Value → List Value → List Value} {gV : List V → List V → List V}
/-- as Fn, with how keywords bind -/
structure FnK (P : Program) (w : World) (K : PySem.W.Frag) (mg : Str → Option Value) (base : Heap) (x : Str) (k : Nat) (ps ks : List Str) (g : List Value → List Value → List Value) (gV : List V → List V → List V) (F : FS) : Prop where
  ex : ∃ (f : Addr) (fd : FuncData), mg x = some (.ref f) ∧ PySem.W.keepIn K (.ref f) = true ∧ KBinds K fd ps ks g gV ∧ FnOk P w K mg base (L2.CX P w) k f fd ps (spF K F)
def tFnK (sp : Sp) (gV : List V → List V → List V) (W : WX) (t tk : TA) : TE := fun σ H Q => t σ H fun vs H1 => tk σ H1 fun zs H2 => sp (gV vs zs) H2 Q (WE W σ)
theorem run_fnKS {CX : CXT} {f : Addr} {fd : FuncData} {sp : Sp} {pins : List (Addr × Obj)} {σ : L2.St} {H : Hp} {s : Shared} {Q : VK} {E : XK} {us ws : List Value} {vs zs : List V} (hF : FnOk X.prog X.w X.K X.mg X.base CX k f fd ps sp) (hr : Room k X.A) (hb : KBinds X.K fd ps ks g gV) (hx : PassesAt CX X σ E)
    (I : Inv X pins σ H s) (r : Vals vs us) (rz : Vals zs ws) (h : sp (gV vs zs) H Q E) : wpAny (model X.prog X.w) X.A (call (.ref f) us (ks.zip ws)) (EP X pins σ Q) X.xe s := by
  have r2 := hb.rel r rz
  have hl : (g us ws).length = ps.length := r2.length.symm.trans (hF.len _ _ _ _ h)
  refine wpAny_call (codeAny_mono (hF.run X.A X.stack s H ⟨us, ks.zip ws⟩ (g us ws) (gV vs zs) Q E hr I.env0 (hb.to s us ws I.kIn hl) r2 h) fun q s' hq => ?_)
  cases q with
  | error e => exact hx pins H s e s' I hq
  | ok fl =>
    cases fl with
    | ret u => exact I.after hq
    | next => exact hq.elim
    | brk => exact hq.elim
    | cont => exact hq.elim
theorem pe_fnK (h : FnK X.prog X.w X.K X.mg X.base x k ps ks g gV F) (hr : Room k' X.A) (hk : k ≤ k') (hg : Gl X x) (tk : Takes X W) (ha : PA X (e :: es) t) (hkw : PK X kws tk0) (hall : (backToKw pos (keywordEach kws X.env)).all (·.1.isSome) = true := by rfl)
    (hks : (backToKw pos (keywordEach kws X.env)).filterMap (·.1) = ks := by rfl) (hdb : (x == ("__debug__" : Str)) = false := by decide) (he : starEach (e :: es) X.env = (false, eval e X.env) :: starEach es X.env := by rfl)
    (hpl : ((backTo pos (starEach (e :: es) X.env)).any (·.1) || (backToKw pos (keywordEach kws X.env)).any (·.1.isNone)) = false := by rfl) : PE X (.Call (.Name x p) (e :: es) kws pos) (tFnK (spF X.K F) gV W t tk0) := by
  obtain ⟨f, fd, hm, hkp, hb, hf⟩ := h.ex
  refine ⟨fun pins s σ H Q I q => wpAny_Call_Name_kw (ld_glob I hg hm ?_ hdb)⟩
  refine PySem.W.callWith_KW (h₀ := X.base) I.ok.mod.kin hkp hall (thn (ha.run pos pins s σ H _ I q) fun us s1 ⟨vs, H1, I1, r, q1⟩ => ?_) hpl he
  refine thn (hkw.run pos pins s1 σ H1 _ I1 q1) fun ws s2 ⟨zs, H2, I2, rz, q2⟩ => ⟨I2.kIn, ?_⟩
  rw [hks]
  exact run_fnKS hf (hr.mono hk) hb (passAt tk σ) I2 r rz q2
/-- all arguments by keywords -/
theorem pe_fnK0 (h : FnK X.prog X.w X.K X.mg X.base x k ps ks g gV F) (hr : Room k' X.A) (hk : k ≤ k') (hg : Gl X x) (tk : Takes X W) (hkw : PK X kws tk0) (hall : (backToKw pos (keywordEach kws X.env)).all (·.1.isSome) = true := by rfl)
    (hks : (backToKw pos (keywordEach kws X.env)).filterMap (·.1) = ks := by rfl) (hdb : (x == ("__debug__" : Str)) = false := by decide)
    (hpl : ((backTo pos (starEach [] X.env)).any (·.1) || (backToKw pos (keywordEach kws X.env)).any (·.1.isNone)) = false := by rfl) : PE X (.Call (.Name x p) [] kws pos) (tFnK (spF X.K F) gV W tNil tk0) := by
  obtain ⟨f, fd, hm, hkp, hb, hf⟩ := h.ex
  refine ⟨fun pins s σ H Q I q => wpAny_Call_Name_kw (ld_glob I hg hm ?_ hdb)⟩
  refine PySem.W.callWith_KW0 (h₀ := X.base) I.ok.mod.kin hkp hall ?_ hpl
  have q0 : tk0 σ H fun zs H2 => spF X.K F (gV [] zs) H2 Q (WE W σ) := q
  refine thn (hkw.run pos pins s σ H _ I q0) fun ws s2 ⟨zs, H2, I2, rz, q2⟩ => ⟨I2.kIn, ?_⟩
  rw [hks]
  exact run_fnKS hf (hr.mono hk) hb (passAt tk σ) I2 .nil rz q2
end
theorem re_fnK {E : En} {F : FS} {tA tK : TA} {gV : List V → List V → List V} {gW : List W → List W → List W} {ε : Ep} {μ : Mu} {Ψ : W → Mu → Prop} (hg : ∀ (K : PySem.W.Frag) (G : Hp) vs zs ws us, WrA K G vs ws → WrA K G zs us → WrA K G (gV vs zs) (gW ws us))
    (h : RA E tA ε μ fun ws μ1 => RA E tK ε μ1 fun us μ2 => CallF E F (gW ws us) ε μ2 Ψ) : RE E (tFnK (spF E.K F) gV E.W tA tK) ε μ Ψ := re_callK hg h
end Sn

/-! Sn: the store of draws. -/
namespace Sn
open PySem L2
theorem szs {n : Nat} (h : n ≤ 1000) : n ≤ sizeLine := Nat.le_trans h (by decide)
/-- the store's list: cells, next place, rest of a great cell, count, numbers left, lesser cell, seed -/
inductive Sto : List W → Prop
  | mk (cs : List Int) (i r c n l s : Int) (hi : 0 ≤ i) (hr : 0 ≤ r) (hn : 0 ≤ n) : Sto [.dat (.lst (cs.map .int)), .i i, .i r, .i c, .i n, .i l, .i s]
theorem cell_at {cs : List Int} {i : Int} (h0 : 0 ≤ i) (h1 : i < (cs.map D.int).length) : ∃ v, atI (cs.map D.int) i = some (.int v) := by
  have hl : i.toNat < cs.length := by rw [List.length_map] at h1; omega
  refine ⟨cs[i.toNat], atI_int h0 ?_⟩
  rw [List.getElem?_map, List.getElem?_eq_getElem hl]
  rfl
end Sn

/-! Sn: data without names of classes; pairs that are to be equal. -/
namespace Sn
open PySem L2
mutual
def D.ok : D → Bool
  | .ty _ => false
  | .cls _ => false
  | .exc _ _ _ => false
  | .tup xs => D.okL xs
  | .lst xs => D.okL xs
  | _ => true
def D.okL : List D → Bool
  | [] => true
  | d :: r => d.ok && D.okL r
end
mutual
def D.sz : D → Nat
  | .tup xs => D.szL xs + 1
  | .lst xs => D.szL xs + 1
  | _ => 1
def D.szL : List D → Nat
  | [] => 0
  | d :: r => d.sz + D.szL r
end
theorem D.sz_pos : ∀ d : D, 1 ≤ d.sz
  | .non => Nat.le_refl 1
  | .bl _ => Nat.le_refl 1
  | .int _ => Nat.le_refl 1
  | .str _ => Nat.le_refl 1
  | .ty _ => Nat.le_refl 1
  | .cls _ => Nat.le_refl 1
  | .exc _ _ _ => Nat.le_refl 1
  | .tup xs => by rw [D.sz]; omega
  | .lst xs => by rw [D.sz]; omega
theorem D.okL_mem : ∀ {ds : List D} {d : D}, D.okL ds = true → d ∈ ds → d.ok = true
  | d :: r, e, h, hm => by
    rw [D.okL, Bool.and_eq_true] at h
    rcases List.mem_cons.mp hm with rfl | hm
    · exact h.1
    · exact D.okL_mem h.2 hm
theorem D.ok_kind {d : D} (h : d.ok = true) : d.kind ≠ "?" := by
  cases d with
  | ty _ => cases h
  | cls _ => cases h
  | exc _ _ _ => cases h
  | _ => (simp only [D.kind]; decide)
def szS : List (D × D) → Nat
  | [] => 0
  | p :: r => p.2.sz + szS r
theorem szS_app : ∀ (a b : List (D × D)), szS (a ++ b) = szS a + szS b
  | [], b => by rw [List.nil_append]; simp [szS]
  | p :: a, b => by rw [List.cons_append, szS, szS, szS_app a b]; omega
theorem szS_rev : ∀ a : List (D × D), szS a.reverse = szS a
  | [] => rfl
  | p :: a => by rw [List.reverse_cons, szS_app, szS_rev a, szS, szS, szS]; omega
theorem szS_len : ∀ a : List (D × D), a.length ≤ szS a
  | [] => Nat.le_refl 0
  | p :: a => by rw [List.length_cons, szS]; have := szS_len a; have := D.sz_pos p.2; omega
theorem szS_zip : ∀ (xs ys : List D), xs.length = ys.length → szS (xs.zip ys) = D.szL ys
  | [], [], _ => rfl
  | x :: xs, y :: ys, h => by
    rw [List.zip_cons_cons, szS, D.szL, szS_zip xs ys (by simpa using h)]
  | [], _ :: _, h => by simp at h
  | _ :: _, [], h => by simp at h
theorem zip_eq : ∀ (xs ys : List D), xs.length = ys.length → ((∀ p ∈ xs.zip ys, p.1 = p.2) ↔ xs = ys)
  | [], [], _ => by simp
  | x :: xs, y :: ys, h => by
    have ih := zip_eq xs ys (by simpa using h)
    rw [List.zip_cons_cons]
    constructor
    · intro q
      have h1 : x = y := q (x, y) List.mem_cons_self
      rw [h1, ih.mp fun p hp => q p (List.mem_cons_of_mem _ hp)]
    · intro q
      cases q
      intro p hp
      rcases List.mem_cons.mp hp with rfl | hp
      · rfl
      · exact (ih.mpr rfl) p hp
  | [], _ :: _, h => by simp at h
  | _ :: _, [], h => by simp at h
def pw (p : D × D) : W := .dat (.tup [p.1, p.2])
/-- the pairs that are left: equal all of them exactly if a = b; i turns behind -/
structure SameI (a b : D) (i : Nat) (ps : List (D × D)) : Prop where
  ok : ∀ p ∈ ps, p.1.ok = true ∧ p.2.ok = true
  eq : (∀ p ∈ ps, p.1 = p.2) ↔ a = b
  sz : i + szS ps ≤ b.sz
theorem SameI.start {a b : D} (ha : a.ok = true) (hb : b.ok = true) : SameI a b 0 [(a, b)] :=
  ⟨fun p hp => by rw [List.mem_singleton.mp hp]; exact ⟨ha, hb⟩, ⟨fun h => h (a, b) List.mem_cons_self, fun h p hp => by rw [List.mem_singleton.mp hp]; exact h⟩, by simp [szS]⟩
/-- a pair of equal leaves goes -/
theorem SameI.leaf {a b d e : D} {i : Nat} {ps : List (D × D)} (h : SameI a b i ((d, e) :: ps)) (he : d = e) : SameI a b (i + 1) ps :=
  ⟨fun p hp => h.ok p (List.mem_cons_of_mem _ hp), ⟨fun q => h.eq.mp fun p hp => by
    rcases List.mem_cons.mp hp with rfl | hp
    · exact he
    · exact q p hp, fun q p hp => h.eq.mpr q p (List.mem_cons_of_mem _ hp)⟩, by
    have h1 := h.sz
    rw [szS] at h1
    simp only at h1
    have := D.sz_pos e
    omega⟩
theorem SameI.no {a b d e : D} {i : Nat} {ps : List (D × D)} (h : SameI a b i ((d, e) :: ps)) (he : d ≠ e) : ¬ a = b := fun q => he (h.eq.mpr q (d, e) List.mem_cons_self)
theorem SameI.yes {a b : D} {i : Nat} (h : SameI a b i []) : a = b := h.eq.mp fun p hp => by cases hp
/-- a pair of sequences of one length is opened -/
theorem SameI.seq {a b d e : D} {xs ys : List D} {i : Nat} {ps : List (D × D)} (h : SameI a b i ((d, e) :: ps)) (hl : xs.length = ys.length) (ox : D.okL xs = true) (oy : D.okL ys = true) (he : d = e ↔ xs = ys) (hz : e.sz = D.szL ys + 1) : SameI a b (i + 1) ((xs.zip ys).reverse ++ ps) where
  ok := fun p hp => by
    rcases List.mem_append.mp hp with hp | hp
    · have hm := List.mem_reverse.mp hp
      exact ⟨D.okL_mem ox (List.of_mem_zip hm).1, D.okL_mem oy (List.of_mem_zip hm).2⟩
    · exact h.ok p (List.mem_cons_of_mem _ hp)
  eq := by
    rw [← h.eq]
    constructor
    · intro q p hp
      rcases List.mem_cons.mp hp with rfl | hp
      · exact he.mpr ((zip_eq xs ys hl).mp fun p hp => q p (List.mem_append_left _ (List.mem_reverse.mpr hp)))
      · exact q p (List.mem_append_right _ hp)
    · intro q p hp
      rcases List.mem_append.mp hp with hp | hp
      · exact (zip_eq xs ys hl).mpr (he.mp (q (d, e) List.mem_cons_self)) p (List.mem_reverse.mp hp)
      · exact q p (List.mem_cons_of_mem _ hp)
  sz := by
    have h1 := h.sz
    rw [szS] at h1
    simp only at h1
    rw [szS_app, szS_rev, szS_zip xs ys hl]
    omega
theorem take_snoc {α : Type} {xs : List α} {i : Nat} {x : α} (h : xs[i]? = some x) : xs.take (i + 1) = xs.take i ++ [x] := by
  rw [List.take_add_one, h]
  rfl
def D.kd : D → Bool
  | .ty _ => false
  | .cls _ => false
  | .exc _ _ _ => false
  | _ => true
theorem D.kd_kind {d : D} (h : d.kd = true) : d.kind ≠ "?" := by
  cases d with
  | ty _ => cases h
  | cls _ => cases h
  | exc _ _ _ => cases h
  | _ => (simp only [D.kind]; decide)
theorem Since.less {n : Nat} {μ μ' : Mu} {G H G' H' : Hp} (s : Since (μ.drop n) G H G' H' μ') : Since μ G H G' H' μ' where
  gg := s.gg
  keep := fun a o h m => s.keep a o h fun z => m (by
    obtain ⟨q, hq, e⟩ := List.mem_map.mp z
    exact e ▸ List.mem_map_of_mem (List.mem_of_mem_drop hq))
  there := s.there
  new := s.new
  own := fun q hq => by
    rcases s.own q hq with z | z
    · left
      obtain ⟨r, hr, e⟩ := List.mem_map.mp z
      exact e ▸ List.mem_map_of_mem (List.mem_of_mem_drop hr)
    · exact .inr z
section
variable {E : En} {t u : TS} {tt uu : TT} {ε : Ep} {μ : Mu} {Φ : Fi} {b : Bool}
/-- owned lists that are needed no more -/
theorem rs_fgt (n : Nat) (h : RS E t ε (μ.drop n) Φ) : RS E t ε μ Φ := fun σ G H C X D T =>
  h σ G H ⟨C.hold.tail n, C.slots⟩ (fun σ ε G' H' μ' cls d fs S' s' e q => X σ ε G' H' μ' cls d fs S' s'.less e q) D
    ⟨fun σ' ε' G' H' μ' S s q => T.nx σ' ε' G' H' μ' S s.less q, fun v w G' H' μ' S s r q => T.rt v w G' H' μ' S s.less r q, fun σ' ε' G' H' μ' S s q => T.bk σ' ε' G' H' μ' S s.less q, fun σ' ε' G' H' μ' S s q => T.ct σ' ε' G' H' μ' S s.less q⟩
theorem rs_ifT (h : VT E tt ε μ b) (hb : b = true) (h1 : RS E t ε μ Φ) : RS E (tIfS tt t u) ε μ Φ := rs_ifv h (fun _ => h1) fun z => by rw [hb] at z; cases z
theorem rs_ifF (h : VT E tt ε μ b) (hb : b = false) (h1 : RS E u ε μ Φ) : RS E (tIfS tt t u) ε μ Φ := rs_ifv h (fun z => by rw [hb] at z; cases z) fun _ => h1
theorem vt_orT (h : VT E tt ε μ b) (hb : b = true) : VT E (tOr tt uu) ε μ true := by
  subst hb
  exact vt_or (c := true) h fun z => by cases z
theorem vt_andF (h : VT E tt ε μ b) (hb : b = false) : VT E (tAnd tt uu) ε μ false := by
  subst hb
  exact vt_and (c := true) h fun z => by cases z
end
end Sn

/-! Sn: calls by keywords; == of data; membership. -/
namespace Sn
open PySem PySem.Spec PyProof.Rows L2
section
variable {P : Program} {w : World} {K : PySem.W.Frag} {mg : Str → Option Value} {base : Heap} {x : Str} {k : Nat} {ps ks : List Str} {F : FS} {f : Addr} {params : Arguments} {body : List Stmt} {scope : Scope}
theorem fnk_mk {g : List Value → List Value → List Value} {gV : List V → List V → List V} (h : Fn P w K mg base x k ps F) (gl : mg x = some (.ref f)) (D : ∃ fd, FunD K x x params body scope [] [] f fd)
    (rel : ∀ {vs : List V} {us : List Value} {zs : List V} {ws : List Value}, Vals vs us → Vals zs ws → Vals (gV vs zs) (g us ws))
    (hb : ∀ (kV doc pm : Value) (an : Option Addr) (cdv ct : Value) (us ws : List Value), (g us ws).length = ps.length → bindArgs (PySem.W.fnOf x x params body scope .none kV doc pm an cdv ct) ⟨us, ks.zip ws⟩ = pure (ps.zip (g us ws))) : FnK P w K mg base x k ps ks g gV F := by
  obtain ⟨fd, D⟩ := D
  obtain ⟨f1, fd1, m1, k1, _, F1, o1, l1, e1⟩ := h.ex
  have q1 : f1 = f := by
    have z := m1.symm.trans gl
    cases z
    rfl
  subst q1
  obtain ⟨oc, od, dV, kV, doc, pm, an, cdv, ct, osl, rfl, lk, hcd, hD, hK⟩ := D.ex
  have q3 := Option.some.inj (l1.symm.trans lk)
  subst q3
  have q4 := Data.func.inj e1
  subst q4
  rcases hD with ⟨_, rfl⟩ | ⟨e, _⟩
  · exact ⟨f1, _, m1, k1, ⟨fun s us ws _ hl => .of_eq (hb kV doc pm an cdv ct us ws hl), rel⟩, F1⟩
  · exact absurd rfl e
end
/-! ### == of data -/
mutual
def D.py : D → PyData
  | .non => .none
  | .bl b => .bool b
  | .int i => .int i
  | .str x => .str x
  | .tup ds => .tuple (D.pyL ds)
  | .lst ds => .list (D.pyL ds)
  | _ => .none
def D.pyL : List D → List PyData
  | [] => []
  | d :: r => d.py :: D.pyL r
end
mutual
theorem Dr.dp {K : PySem.W.Frag} {G : Hp} : ∀ (d : D) (v : V), d.ok = true → Dr K G v d → Dp K G v d.py
  | .non, _, _, h => by cases h; simp only [D.py]; exact .non
  | .bl _, _, _, h => by cases h; simp only [D.py]; exact .bl _
  | .int _, _, _, h => by cases h; simp only [D.py]; exact .int _
  | .str _, _, _, h => by cases h; simp only [D.py]; exact .str _
  | .ty _, _, o, _ => by cases o
  | .cls _, _, o, _ => by cases o
  | .exc _ _ _, _, o, _ => by cases o
  | .tup ds, _, o, h => by
    cases h with
    | tup h1 h2 =>
      rw [D.py]
      exact .tup h1 (DrA.dp ds _ (by rwa [D.ok] at o) h2)
  | .lst ds, _, o, h => by
    cases h with
    | lst h1 h2 =>
      rw [D.py]
      exact .lst h1 (DrA.dp ds _ (by rwa [D.ok] at o) h2)
theorem DrA.dp {K : PySem.W.Frag} {G : Hp} : ∀ (ds : List D) (vs : List V), D.okL ds = true → DrA K G vs ds → DpAll K G vs (D.pyL ds)
  | [], _, _, h => by cases h; rw [D.pyL]; exact .nil
  | d :: ds, _, o, h => by
    rw [D.okL, Bool.and_eq_true] at o
    cases h with
    | cons h1 h2 =>
      rw [D.pyL]
      exact .cons (Dr.dp d _ o.1 h1) (DrA.dp ds _ o.2 h2)
end
section
variable {E : En} {μ : Mu} {a b : D} {c : Bool}
theorem vo_eqD (oa : a.ok = true) (ob : b.ok = true) (ha : SeqAt.shaped a.py = true) (hb : SeqAt.shaped b.py = true) (hc : PyData.eqv a.py b.py = c) : VO E (rEqD E.K) (.dat a) (.dat b) μ (.b c) := fun G H S v1 v2 r1 r2 Q q => by
  subst hc
  exact ⟨a.py, b.py, Dr.dp a _ oa (Dr.up (show Dr E.K G v1 a from r1) S.gh), Dr.dp b _ ob (Dr.up (show Dr E.K G v2 b from r2) S.gh), ha, hb, q _ (Dr.bl _)⟩
theorem vo_neD (oa : a.ok = true) (ob : b.ok = true) (ha : SeqAt.shaped a.py = true) (hb : SeqAt.shaped b.py = true) (hc : (!PyData.eqv a.py b.py) = c) : VO E (rNeD E.K) (.dat a) (.dat b) μ (.b c) := fun G H S v1 v2 r1 r2 Q q => by
  subst hc
  exact ⟨a.py, b.py, Dr.dp a _ oa (Dr.up (show Dr E.K G v1 a from r1) S.gh), Dr.dp b _ ob (Dr.up (show Dr E.K G v2 b from r2) S.gh), ha, hb, q _ (Dr.bl _)⟩
/-! ### x in a list or a tuple of flat items -/
def D.fl : D → Bool
  | .non => true
  | .bl _ => true
  | .int _ => true
  | .str _ => true
  | _ => false
def D.v : D → V
  | .bl b => .bl b
  | .int b => .int b
  | .str b => .str b
  | _ => .non
theorem Dr.fl {K : PySem.W.Frag} {G : Hp} {v : V} {d : D} (h : Dr K G v d) (f : d.fl = true) : v = d.v ∧ flatV v = true := by
  cases h with
  | non => exact ⟨rfl, rfl⟩
  | bl _ => exact ⟨rfl, rfl⟩
  | int _ => exact ⟨rfl, rfl⟩
  | str _ => exact ⟨rfl, rfl⟩
  | _ => cases f
theorem DrA.fl {K : PySem.W.Frag} {G : Hp} : ∀ {vs : List V} {ds : List D}, DrA K G vs ds → ds.all D.fl = true → vs = ds.map D.v ∧ vs.all flatV = true
  | _, _, .nil, _ => ⟨rfl, rfl⟩
  | _, _, .cons r t, f => by
    rw [List.all_cons, Bool.and_eq_true] at f
    obtain ⟨e1, f1⟩ := r.fl f.1
    obtain ⟨e2, f2⟩ := DrA.fl t f.2
    subst e1
    subst e2
    exact ⟨rfl, by rw [List.all_cons, f1, f2]; rfl⟩
theorem vo_in {ds : List D} {neg : Bool} (hs : b.seq = some ds) (fa : a.fl = true) (fs : ds.all D.fl = true) (hc : (if neg then !inV a.v (ds.map D.v) else inV a.v (ds.map D.v)) = c) : VO E (rIn E.K neg) (.dat a) (.dat b) μ (.b c) := fun G H S v1 v2 r1 r2 Q q => by
  subst hc
  obtain ⟨p, xs, rfl, h1, h2⟩ := Dr.seqOf (show Dr E.K G v2 b from r2) hs
  obtain ⟨rfl, f1⟩ := Dr.fl (show Dr E.K G v1 a from r1) fa
  obtain ⟨rfl, f2⟩ := DrA.fl h2 fs
  exact ⟨p, _, rfl, sq_up S.gh h1, f1, f2, q _ (Dr.bl _)⟩
end
/-! ### short ends -/
section
variable {E : En} {F : FS} {μ : Mu} {ε : Ep} {ws : List W} {b : Bool} {A C : Prop} {Ψ : W → Mu → Prop}
theorem callF1 (h : F ws μ Ψ fun cls fs μ' => E.χ ε cls fs μ') : CallF E F ws ε μ Ψ := ⟨0, h⟩
theorem dt_i {ds : List D} (hu : undat ws = some ds) (hz : ds.length ≤ sizeLine) (q : Ψ (.dat (.tup ds)) μ) : DT ws μ Ψ := ⟨ds, hu, hz, q⟩
theorem br_t (h : b = true) (a : A) : (b = true → A) ∧ (b = false → C) := ⟨fun _ => a, fun z => by rw [h] at z; cases z⟩
theorem br_f (h : b = false) (c : C) : (b = true → A) ∧ (b = false → C) := ⟨fun z => (by rw [h] at z; cases z), fun _ => c⟩
theorem or_t (h : b = true) (a : A) : (b = false → C) ∧ (b = true → A) := ⟨fun z => (by rw [h] at z; cases z), fun _ => a⟩
theorem or_f (h : b = false) (c : C) : (b = false → C) ∧ (b = true → A) := ⟨fun _ => c, fun z => by rw [h] at z; cases z⟩
end
theorem Bd.add1 {n : Nat} {i j : Int} (h : Bd n i) (k : Bd n j) : Bd (n + 1) (i + j) := ⟨by
  have h1 := h.lt
  have k1 := k.lt
  have := Int.natAbs_add_le i j
  rw [Nat.pow_succ]
  omega⟩
/-! ### for over a range whose bounds are worked out -/
section
variable {E : En} {ε : Ep} {μ : Mu} {tA : TA} {t : TS} {Φ : Fi} {j : Nat}
theorem rs_forG1 (P : Int → Nat → Ep → Mu → Prop) (hv : RA E tA ε μ fun ws μ1 => ∃ n : Int, ws = [.i n] ∧ n < 2 ^ 62 ∧ -(2 ^ 62) ≤ n ∧ P n 0 ε μ1 ∧
    (∀ (i : Nat) ε' μ', (i : Int) < n → P n i ε' μ' → RS E t (ε'.set j (some (.i (i : Int)))) μ' (Φ.turn (P n (i + 1)))) ∧ ∀ ε' μ', P n n.toNat ε' μ' → Φ.nx ε' μ') : RS E (tFor (iRng1 tA) (gName j) t) ε μ Φ := fun σ G H C X D T => hv σ G H C X _ fun vs ws G1 H1 μ1 S1 s1 rs ⟨n, e, hn, hn0, h0, hs, hd⟩ => by
  subst e
  cases rs with
  | cons r r2 =>
    cases r; cases r2
    refine ⟨n, rfl, hn0, hn, for_range (lo := 0) (n := n.toNat) (fun i σ' H' => ∃ ε' G' μ', St E.K σ' ε' G' H' μ' ∧ Since μ1 G1 H1 G' H' μ' ∧ P n i ε' μ') ⟨ε, G1, μ1, C.to S1 s1, .refl μ1 G1 H1, h0⟩ ?_ ?_⟩
    · rintro i σ' H' hi ⟨ε', G', μ', C', s', p⟩
      have e0 : (0 : Int) + (i : Int) = (i : Int) := Int.zero_add _
      show t _ (σ'.set j (some (.int ((0 : Int) + (i : Int))))) H'
      rw [e0]
      exact hs i ε' μ' (by omega) p _ G' H' ⟨C'.hold, C'.slots.set j (show Wr E.K G' (.int (i : Int)) (.i (i : Int)) from Dr.int _)⟩ (X.to (s1.trans s')) _ (turn_ties T (s1.trans s') fun σ2 ε2 G2 H2 μ2 S2 s2 q => ⟨ε2, G2, μ2, S2, s'.trans s2, q⟩)
    · rintro σ' H' ⟨ε', G', μ', C', s', p⟩
      exact T.nx σ' ε' G' H' μ' C' (s1.trans s') (hd ε' μ' p)
theorem rs_forG2 (P : Int → Int → Nat → Ep → Mu → Prop) (hv : RA E tA ε μ fun ws μ1 => ∃ lo n : Int, ws = [.i lo, .i n] ∧ (-(2 ^ 62) ≤ lo ∧ lo < 2 ^ 62 ∧ -(2 ^ 62) ≤ n ∧ n < 2 ^ 62) ∧ P lo n 0 ε μ1 ∧
    (∀ (i : Nat) ε' μ', lo + (i : Int) < n → P lo n i ε' μ' → RS E t (ε'.set j (some (.i (lo + (i : Int))))) μ' (Φ.turn (P lo n (i + 1)))) ∧ ∀ ε' μ', P lo n (n - lo).toNat ε' μ' → Φ.nx ε' μ') : RS E (tFor (iRng2 tA) (gName j) t) ε μ Φ := fun σ G H C X D T => hv σ G H C X _ fun vs ws G1 H1 μ1 S1 s1 rs ⟨lo, n, e, hb, h0, hs, hd⟩ => by
  subst e
  cases rs with
  | cons r r2 =>
    cases r2 with
    | cons r3 r4 =>
      cases r; cases r3; cases r4
      refine ⟨lo, n, rfl, hb, for_range (lo := lo) (n := (n - lo).toNat) (fun i σ' H' => ∃ ε' G' μ', St E.K σ' ε' G' H' μ' ∧ Since μ1 G1 H1 G' H' μ' ∧ P lo n i ε' μ') ⟨ε, G1, μ1, C.to S1 s1, .refl μ1 G1 H1, h0⟩ ?_ ?_⟩
      · rintro i σ' H' hi ⟨ε', G', μ', C', s', p⟩
        exact hs i ε' μ' (by omega) p _ G' H' ⟨C'.hold, C'.slots.set j (show Wr E.K G' (.int (lo + (i : Int))) (.i (lo + (i : Int))) from Dr.int _)⟩ (X.to (s1.trans s')) _ (turn_ties T (s1.trans s') fun σ2 ε2 G2 H2 μ2 S2 s2 q => ⟨ε2, G2, μ2, S2, s'.trans s2, q⟩)
      · rintro σ' H' ⟨ε', G', μ', C', s', p⟩
        exact T.nx σ' ε' G' H' μ' C' (s1.trans s') (hd ε' μ' p)
end
/-! ### try, the readings found in the inner surroundings -/
def tTry (K : PySem.W.Frag) (tb : WX → TS) (l : List Cl) (Wo : WX) : TS := fun D σ H => tb (wCl K Wo D l) D σ H
theorem rs_tryD {E : En} {tb : WX → TS} {l : List Cl} {ε : Ep} {μ : Mu} {Φ : Fi} (χ' : Ep → Value → List (Str × D) → Mu → Prop) (hb : ∀ W', RS ⟨E.K, W', χ'⟩ (tb W') ε μ Φ)
    (hh : ∀ ε' cls fs μ', χ' ε' cls fs μ' → HCl E l ε' cls fs μ' Φ) : RS E (tTry E.K tb l E.W) ε μ Φ := rs_try χ' hb hh
section
variable {X : Cx} {body : List Stmt} {h₀ : ExceptHandler} {hds : List ExceptHandler} {l : List Cl} {pos : Pos} {tb : WX → TS} {Wo : WX} {tb' : List (Addr × Obj) → (Value → Shared → Prop) → WX → TS}
theorem ps_tryD (hs : X.stack = X.env :: X.outer) (hf : X.env.frame = some X.env.locals) (hN : X.N.Nodup) (tk : Takes X Wo)
    (hb : ∀ (W : WX) (pn : List (Addr × Obj)) (xe : Value → Shared → Prop), Takes (X.tr pn xe) W → PassesOwn (model X.prog X.w) X.A X.env xe → PSs (X.tr pn xe) body (tb' pn xe W))
    (hh : ClOk X (h₀ :: hds) l) (he : ∀ pn xe W, tb' pn xe W = tb W) : PS X (.Try body (h₀ :: hds) [] [] pos) (tTry X.K tb l Wo) :=
  ps_try hs hf hN tk (fun W pn xe t p => by rw [← he pn xe W]; exact hb W pn xe t p) hh
variable {x n : Str} {i : Nat} {c : Value} {ts : Addr → Value → Option Addr → TS} {ts' : Addr → Obj → Value → Option Addr → List (Addr × Obj) → TS} {b₀ : Stmt} {suite : List Stmt} {np pos' : Pos}
theorem cl_plain (hc : Names X x c) (hsu : ∀ (a : Addr) (oe : Obj) (cls : Value) (d : Option Addr) (pn : List (Addr × Obj)), Zc cls d oe → (∃ vs, oe.data = .fields vs) → PSs (X.suite a ((a, oe) :: pn)) (b₀ :: suite) (ts' a oe cls d pn)) (r : ClOk X hds l) (he : ∀ a oe cls d pn, ts' a oe cls d pn = ts a cls d) :
    ClOk X (.ExceptHandler (some (.Name x np)) none (b₀ :: suite) pos' :: hds) ((c, none, ts) :: l) := .plain hc (fun a oe cls d pn hz hf => by rw [← he a oe cls d pn]; exact hsu a oe cls d pn hz hf) r
theorem cl_named (hc : Names X x c) (hi : X.N[i]? = some n) (hln : X.env.kindOf n = some .local) (hsu : ∀ (a : Addr) (oe : Obj) (cls : Value) (d : Option Addr) (pn : List (Addr × Obj)), Zc cls d oe → (∃ vs, oe.data = .fields vs) → PSs (X.suite a ((a, oe) :: pn)) (b₀ :: suite) (ts' a oe cls d pn)) (r : ClOk X hds l) (he : ∀ a oe cls d pn, ts' a oe cls d pn = ts a cls d) :
    ClOk X (.ExceptHandler (some (.Name x np)) (some n) (b₀ :: suite) pos' :: hds) ((c, some i, ts) :: l) := .named hc hi hln (fun a oe cls d pn hz hf => by rw [← he a oe cls d pn]; exact hsu a oe cls d pn hz hf) r
end
theorem DrA.app {K : PySem.W.Frag} {G : Hp} {ys : List V} {es : List D} (t : DrA K G ys es) : ∀ {xs : List V} {ds : List D}, DrA K G xs ds → DrA K G (xs ++ ys) (ds ++ es)
  | _, _, .nil => t
  | _, _, .cons r s => .cons r (DrA.app t s)
/-! ### a < b < c; bits; two lists joined -/
section
variable {E : En} {ε : Ep} {μ : Mu} {ta tb tc : TE} {r r' : R2} {w1 w2 w3 : W} {k k2 : Bool} {Ψ : W → Mu → Prop} {i j : Int}
theorem ve_chain (ha : VE E ta ε μ w1) (hb : VE E tb ε μ w2) (hc : VE E tc ε μ w3) (h1 : VO E r w1 w2 μ (.b k)) (h2 : VO E r' w2 w3 μ (.b k2)) : VE E (tChain r r' ta tb tc) ε μ (.b (k && k2)) := fun σ G H C Q q =>
  ha σ G H C _ fun v1 r1 => hb σ G H C _ fun v2 r2 => h1 G H C.hold v1 v2 r1 r2 _ fun v rv => by
    cases rv
    refine ⟨k, rfl, ?_⟩
    cases k with
    | true => exact hc σ G H C _ fun v3 r3 => h2 G H C.hold v2 v3 r2 r3 Q q
    | false => exact q _ (Dr.bl _)
theorem re_chain (h : RE E ta ε μ fun w1 μ1 => RE E tb ε μ1 fun w2 μ2 => RO E r w1 w2 μ2 fun w μ3 => TB w μ3 fun k μ4 => (k = true → RE E tc ε μ4 fun w3 μ5 => RO E r' w2 w3 μ5 Ψ) ∧ (k = false → Ψ (.b false) μ4)) : RE E (tChain r r' ta tb tc) ε μ Ψ := fun σ G H C X Q q =>
  h σ G H C X _ fun v1 w1 G1 H1 μ1 C1 e1 r1 h1 => h1 σ G1 H1 (C.to C1 e1) (X.to e1) _ fun v2 w2 G2 H2 μ2 C2 e2 r2 h2 => h2 G2 H2 C2 v1 v2 (r1.up e2.gg) r2 _ fun v w G3 H3 μ3 C3 e3 r3 ⟨b, eb, h3⟩ => by
    subst eb
    cases r3
    refine ⟨b, rfl, ?_⟩
    have e123 := (e1.trans e2).trans e3
    cases b with
    | true => exact h3.1 rfl σ G3 H3 (C.to C3 e123) (X.to e123) _ fun v4 w4 G4 H4 μ4 C4 e4 r4 h4 => h4 G4 H4 C4 v2 v4 (r2.up (e3.gg.trans e4.gg)) r4 Q fun v w G5 H5 μ5 C5 e5 r5 q5 => q v w G5 H5 μ5 C5 ((e123.trans e4).trans e5) r5 q5
    | false => exact q _ (.b false) G3 H3 μ3 C3 e123 (Dr.bl _) (h3.2 rfl)
theorem ve_bits (h : VE E ta ε μ (.i i)) : VE E (tBits ta) ε μ (.i (Builtin.Int.intBits i : Nat)) := fun σ G H C Q q => h σ G H C _ fun v r => by
  cases r
  exact ⟨i, rfl, q _ (Dr.int _)⟩
/-- a + b, both owned: a new list, frozen -/
theorem ro_cat {ka kb : Nat} {la lb : Addr} {xs ys : List D} (ha : μ[ka]? = some (la, .lst (xs.map .dat))) (hb : μ[kb]? = some (lb, .lst (ys.map .dat))) (hz : xs.length + ys.length ≤ sizeLine) (q : Ψ (.dat (.lst (xs ++ ys))) μ) : RO E rCat (.at la) (.at lb) μ Ψ := fun G H S v1 v2 r1 r2 Q k => by
  cases r1; cases r2
  obtain ⟨_, us, hu, ru⟩ := S.lst ha
  obtain ⟨_, vs, hv, rv⟩ := S.lst hb
  have du := WrA.dats ru
  have dv := WrA.dats rv
  refine ⟨la, lb, us, vs, rfl, rfl, hu, hv, by rw [du.length, dv.length]; exact hz, fun p hp => ?_⟩
  have hg := S.gnone hp
  have da : DrA E.K G (us ++ vs) (xs ++ ys) := DrA.app dv du
  exact k _ (.dat (.lst (xs ++ ys))) _ _ μ (S.newF hp) (.newF S hp) (Dr.lst (SqL.of upd_same) (da.up (ex_new hg))) q
end
/-- << where the result has at most 10 ^ 7 bits -/
theorem cshl {n : Nat} {i j : Int} (h : Bd n i) (h0 : 0 ≤ j) (l : n + j.toNat < 100000000) : CShl i j := by
  obtain ⟨m, rfl⟩ := Int.eq_ofNat_of_zero_le h0
  exact shl_ok h.lt (by rw [Int.toNat_natCast] at l; omega)
theorem Bd.pow {b : Int} {n : Nat} (h : Bd n b) : ∀ k : Nat, Bd (n * k + 1) (b ^ k)
  | 0 => by
    exact ⟨by simp⟩
  | k + 1 => by
    have h1 := (Bd.pow h k).mul h
    rw [Int.pow_succ]
    exact h1.up (by rw [Nat.mul_succ]; omega)
end Sn

/-! Sn: fractions, in plain Lean. -/
namespace Sn
open PySem L2
def sgd (x y : Int) : Int := if y < 0 ∨ (y = 0 ∧ x < 0) then -(Int.gcd x y : Int) else (Int.gcd x y : Int)
def lowD (x y : Int) : D := .tup [.int (x.fdiv (sgd x y)), .int (y.fdiv (sgd x y))]
def redD (x y : Int) : D := if x = 0 ∧ y = 0 then .non else lowD x y
def isF (x y : Int) : Bool := if y = 0 then decide (x = 1) else (decide (y > 0) && decide ((Int.gcd x y : Int) = 1))
theorem gcd_pos {x y : Int} (h : ¬ (x = 0 ∧ y = 0)) : 0 < (Int.gcd x y : Int) := by
  rcases Nat.eq_zero_or_pos (Int.gcd x y) with e | e
  · exact absurd (Int.gcd_eq_zero_iff.mp e) h
  · omega
theorem gcd_bd {n : Nat} {x y : Int} (hx : Bd n x) (hy : Bd n y) : Bd n (Int.gcd x y : Int) := ⟨by
  show Int.gcd x y < 2 ^ n
  rcases Nat.eq_zero_or_pos y.natAbs with e | e
  · have : y = 0 := by omega
    subst this
    rw [Int.gcd_zero_right]
    exact hx.lt
  · exact Nat.lt_of_le_of_lt (Nat.gcd_le_right _ e) hy.lt⟩
/-- p / q is in lowest terms -/
structure Lt (p q : Int) : Prop where
  g : Int.gcd p q = 1
  q0 : q > 0 ∨ (q = 0 ∧ p = 1)
theorem isF_iff {p q : Int} : isF p q = true ↔ Lt p q := by
  unfold isF
  split
  · rename_i h
    subst h
    rw [decide_eq_true_eq]
    constructor
    · intro e; subst e; exact ⟨rfl, .inr ⟨rfl, rfl⟩⟩
    · intro h
      rcases h.q0 with h | h
      · omega
      · exact h.2
  · rename_i h
    rw [Bool.and_eq_true, decide_eq_true_eq, decide_eq_true_eq]
    constructor
    · intro e; exact ⟨by omega, .inl e.1⟩
    · intro e
      refine ⟨?_, by rw [e.g]; rfl⟩
      rcases e.q0 with z | z
      · exact z
      · exact absurd z.1 h
theorem sgd_mul {p q s : Int} (h : Lt p q) : sgd (p * s) (q * s) = s := by
  unfold sgd
  rw [Int.gcd_mul_right, h.g, Nat.one_mul]
  rcases h.q0 with h0 | ⟨rfl, rfl⟩
  · by_cases hs : s < 0
    · rw [if_pos (.inl (Int.mul_neg_of_pos_of_neg h0 hs))]; omega
    · have h1 : 0 ≤ q * s := Int.mul_nonneg (by omega) (by omega)
      rw [if_neg]
      · omega
      · rintro (z | ⟨z1, z2⟩)
        · omega
        · rcases Int.mul_eq_zero.mp z1 with z | z
          · omega
          · subst z; omega
  · rw [Int.zero_mul, Int.one_mul]
    split <;> omega
theorem fdiv_mul {p s : Int} (h : s ≠ 0) : (p * s).fdiv s = p := Int.mul_fdiv_cancel _ h
theorem lowD_mul {p q s : Int} (h : Lt p q) (hs : s ≠ 0) : lowD (p * s) (q * s) = .tup [.int p, .int q] := by
  unfold lowD
  rw [sgd_mul h, fdiv_mul hs, fdiv_mul hs]
/-- each pair that is not 0, 0 comes of one in lowest terms -/
theorem low_of {x y : Int} (h : ¬ (x = 0 ∧ y = 0)) : ∃ p q s, x = p * s ∧ y = q * s ∧ s ≠ 0 ∧ Lt p q ∧ lowD x y = .tup [.int p, .int q] := by
  have hg := gcd_pos h
  have hg0 : 0 < Int.gcd x y := by omega
  obtain ⟨p, hp⟩ : (Int.gcd x y : Int) ∣ x := Int.gcd_dvd_left ..
  obtain ⟨q, hq⟩ : (Int.gcd x y : Int) ∣ y := Int.gcd_dvd_right ..
  have hpq : Int.gcd p q = 1 := by
    have e : Int.gcd ((Int.gcd x y : Int) * p) ((Int.gcd x y : Int) * q) = Int.gcd x y * Int.gcd p q := by rw [Int.gcd_mul_left]; rfl
    rw [← hp, ← hq] at e
    have e2 : Int.gcd x y * 1 = Int.gcd x y * Int.gcd p q := by rw [Nat.mul_one]; exact e
    exact (Nat.eq_of_mul_eq_mul_left hg0 e2).symm
  generalize hG : (Int.gcd x y : Int) = G at hp hq hg
  by_cases hs : y < 0 ∨ (y = 0 ∧ x < 0)
  · have L : Lt (-p) (-q) := ⟨by rw [Int.neg_gcd, Int.gcd_neg]; exact hpq, by
      rcases hs with hs | ⟨hs, hs2⟩
      · left
        rcases Int.lt_trichotomy q 0 with z | z | z
        · omega
        · subst z; rw [Int.mul_zero] at hq; omega
        · have := Int.mul_pos hg z; omega
      · have q0 : q = 0 := by
          rcases Int.mul_eq_zero.mp (hq.symm.trans hs) with z | z
          · omega
          · exact z
        subst q0
        right
        refine ⟨rfl, ?_⟩
        rw [Int.gcd_zero_right] at hpq
        rcases Int.lt_trichotomy p 0 with z | z | z
        · omega
        · subst z; cases hpq
        · have := Int.mul_pos hg z; omega⟩
    refine ⟨-p, -q, -G, by rw [Int.neg_mul_neg, Int.mul_comm]; exact hp, by rw [Int.neg_mul_neg, Int.mul_comm]; exact hq, by omega, L, ?_⟩
    have e := lowD_mul L (s := -G) (by omega)
    rw [Int.neg_mul_neg, Int.neg_mul_neg, Int.mul_comm p, Int.mul_comm q, ← hp, ← hq] at e
    exact e
  · have L : Lt p q := ⟨hpq, by
      rcases Int.lt_trichotomy q 0 with z | z | z
      · have := Int.mul_neg_of_pos_of_neg hg z; omega
      · subst z
        right
        refine ⟨rfl, ?_⟩
        rw [Int.mul_zero] at hq
        rw [Int.gcd_zero_right] at hpq
        rcases Int.lt_trichotomy p 0 with z | z | z
        · have := Int.mul_neg_of_pos_of_neg hg z; omega
        · subst z; cases hpq
        · omega
      · exact .inl z⟩
    refine ⟨p, q, G, by rw [Int.mul_comm]; exact hp, by rw [Int.mul_comm]; exact hq, by omega, L, ?_⟩
    have e := lowD_mul L (s := G) (by omega)
    rw [Int.mul_comm p, Int.mul_comm q, ← hp, ← hq] at e
    exact e
theorem isF_mul {p q s : Int} (h : Lt p q) (hs : s ≠ 1) : isF (p * s) (q * s) = false := by
  rw [Bool.eq_false_iff]
  intro z
  have L := isF_iff.mp z
  have e := L.g
  rw [Int.gcd_mul_right, h.g, Nat.one_mul] at e
  have e2 : s = -1 := by omega
  subst e2
  have q0 := L.q0
  have q1 := h.q0
  omega
/-- in lowest terms exactly if lowest leaves it as it is -/
theorem isF_low {x y p q : Int} (h : ¬ (x = 0 ∧ y = 0)) (e : lowD x y = .tup [.int p, .int q]) : isF x y = decide (x = p ∧ y = q) := by
  obtain ⟨p', q', s, hx, hy, hs, L, e'⟩ := low_of h
  rw [e] at e'
  cases e'
  rw [Bool.eq_iff_iff, decide_eq_true_eq, isF_iff]
  constructor
  · intro L2
    have e2 := lowD_mul L2 (s := 1) (by decide)
    rw [Int.mul_one, Int.mul_one, e] at e2
    cases e2
    exact ⟨rfl, rfl⟩
  · rintro ⟨rfl, rfl⟩
    exact L
theorem abs_le_mul {p s : Int} (hs : s ≠ 0) : p.natAbs ≤ (p * s).natAbs := by
  rw [Int.natAbs_mul]
  exact Nat.le_mul_of_pos_right _ (by omega)
theorem at_mem {ds : List D} {r : Int} {P : D → Prop} (h0 : 0 ≤ r) (h1 : r < (ds.length : Nat)) (h : ∀ x ∈ ds, P x) : ∃ x, atI ds r = some x ∧ P x := by
  have hl : r.toNat < ds.length := by omega
  exact ⟨ds[r.toNat], Sn.atI_int h0 (List.getElem?_eq_getElem hl), h _ (List.getElem_mem hl)⟩
end Sn

/-! Sn: roots by steps, ceilings, in plain Lean. -/
namespace Sn
open PySem L2
/-- the tangent lies below the power -/
theorem tangent (s g : Int) (hs : 0 ≤ s) (hg : 0 ≤ g) : ∀ e : Nat, g * g ^ e + ((e : Int) + 1) * g ^ e * (s - g) ≤ s * s ^ e
  | 0 => by simp; omega
  | e + 1 => by
    have ih := tangent s g hs hg e
    have h1 : 0 ≤ s * (s * s ^ e - (g * g ^ e + ((e : Int) + 1) * g ^ e * (s - g))) := Int.mul_nonneg hs (by omega)
    have h2 : 0 ≤ ((e : Int) + 1) * g ^ e * ((s - g) * (s - g)) := Int.mul_nonneg (Int.mul_nonneg (by omega) (Int.pow_nonneg hg)) (by
      rcases Int.le_total 0 (s - g) with h | h
      · exact Int.mul_nonneg h h
      · have h3 := Int.mul_nonneg (show 0 ≤ -(s - g) by omega) (show 0 ≤ -(s - g) by omega)
        rwa [Int.neg_mul_neg] at h3)
    rw [Int.pow_succ, Int.pow_succ]
    have e1 : (((e + 1 : Nat) : Int)) = (e : Int) + 1 := by omega
    rw [e1]
    generalize g ^ e = G at *
    generalize s ^ e = S at *
    grind
/-- the root by steps -/
def rootN (n : Int) (e : Nat) (g : Int) : Int := (((e : Int) - 1) * g + n / g ^ (e - 1)) / (e : Int)
theorem root_above {n g : Int} {e : Nat} (he : 1 ≤ e) (hg : 1 ≤ g) (hn : 0 ≤ n) : n < (rootN n e g + 1) ^ e := by
  obtain ⟨k, rfl⟩ : ∃ k, e = k + 1 := ⟨e - 1, by omega⟩
  unfold rootN
  simp only [Nat.add_sub_cancel]
  have hp : 0 < g ^ k := Int.pow_pos (by omega)
  obtain ⟨q, hq⟩ : ∃ q, q = n / g ^ k := ⟨_, rfl⟩
  have hq1 : n < (q + 1) * g ^ k := by rw [hq]; exact Int.lt_ediv_add_one_mul_self n hp
  have hq0 : 0 ≤ q := by rw [hq]; exact Int.ediv_nonneg hn (Int.le_of_lt hp)
  rw [← hq]
  have ee : (((k + 1 : Nat) : Int)) = (k : Int) + 1 := by omega
  rw [ee]
  have e3 : ((k : Int) + 1 - 1) * g = (k : Int) * g := by rw [Int.add_sub_cancel]
  rw [e3]
  obtain ⟨t, ht⟩ : ∃ t, t = ((k : Int) * g + q) / ((k : Int) + 1) := ⟨_, rfl⟩
  have hkg : 0 ≤ (k : Int) * g := Int.mul_nonneg (by omega) (by omega)
  have ht1 : (k : Int) * g + q < (t + 1) * ((k : Int) + 1) := by rw [ht]; exact Int.lt_ediv_add_one_mul_self _ (by omega)
  have ht0 : 0 ≤ t := by rw [ht]; exact Int.ediv_nonneg (by omega) (by omega)
  rw [← ht]
  have hT := tangent (t + 1) g (by omega) (by omega) k
  rw [Int.pow_succ, Int.mul_comm _ (t + 1)]
  refine Int.lt_of_lt_of_le hq1 (Int.le_trans ?_ hT)
  have h5 : 0 ≤ ((k : Int) + 1) * (t + 1 - g) - (q + 1 - g) := by
    have : ((k : Int) + 1) * (t + 1 - g) = (t + 1) * ((k : Int) + 1) - (k : Int) * g - g := by grind
    omega
  have h6 := Int.mul_nonneg h5 (Int.le_of_lt hp)
  generalize g ^ k = G at *
  generalize (k : Int) = K at *
  grind
theorem root_stop {n g : Int} {e : Nat} (he : 1 ≤ e) (hg : 1 ≤ g) (h : g ≤ rootN n e g) : g ^ e ≤ n := by
  obtain ⟨k, rfl⟩ : ∃ k, e = k + 1 := ⟨e - 1, by omega⟩
  unfold rootN at h
  simp only [Nat.add_sub_cancel] at h
  have hp : 0 < g ^ k := Int.pow_pos (by omega)
  have ee : (((k + 1 : Nat) : Int)) = (k : Int) + 1 := by omega
  rw [ee] at h
  have e3 : ((k : Int) + 1 - 1) * g = (k : Int) * g := by rw [Int.add_sub_cancel]
  rw [e3] at h
  have h1 := (Int.le_ediv_iff_mul_le (show 0 < (k : Int) + 1 by omega)).mp h
  have h2 : g ≤ n / g ^ k := by
    have : g * ((k : Int) + 1) = (k : Int) * g + g := by grind
    omega
  have h3 := (Int.le_ediv_iff_mul_le hp).mp h2
  rw [Int.pow_succ, Int.mul_comm]
  exact h3
theorem root_pos {n r : Int} {e : Nat} (he : 1 ≤ e) (hn : 1 ≤ n) (h : n < (r + 1) ^ e) (h0 : -1 ≤ r) : 1 ≤ r := by
  rcases (by omega : r < 1 ∨ 1 ≤ r) with h1 | h1
  · rcases (by omega : r < 0 ∨ 0 ≤ r) with h2 | h2
    · have : r = -1 := by omega
      subst this
      rw [show (-1 : Int) + 1 = 0 from rfl, Int.zero_pow (by omega)] at h
      omega
    · have : r = 0 := by omega
      subst this
      rw [show (0 : Int) + 1 = 1 from rfl, Int.one_pow] at h
      omega
  · exact h1
theorem pow_self_le {r : Int} {e : Nat} (he : 1 ≤ e) (hr : 0 ≤ r) : r ≤ r ^ e := by
  obtain ⟨k, rfl⟩ : ∃ k, e = k + 1 := ⟨e - 1, by omega⟩
  rcases (by omega : 0 < r ∨ r ≤ 0) with h | h
  · rw [Int.pow_succ]
    have : 0 < r ^ k := Int.pow_pos h
    have h2 : 1 * r ≤ r ^ k * r := Int.mul_le_mul_of_nonneg_right (by omega) hr
    omega
  · have : r = 0 := by omega
    subst this
    rw [Int.zero_pow (by omega)]
    exact Int.le_refl 0
/-- the first root to begin with -/
theorem first_root {n : Int} {b e : Nat} (he : 1 ≤ e) (h : n.natAbs < 2 ^ b) : n < ((2 : Int) ^ ((b + e - 1) / e) + 1) ^ e := by
  have h1 : n < 2 ^ b := by
    have h2 : ((n.natAbs : Nat) : Int) < ((2 ^ b : Nat) : Int) := by omega
    rw [Int.natCast_pow] at h2
    have h3 : ((2 : Nat) : Int) = 2 := rfl
    rw [h3] at h2
    omega
  have h4 : b ≤ (b + e - 1) / e * e := by
    have h5 := Nat.div_add_mod (b + e - 1) e
    have h6 := Nat.mod_lt (b + e - 1) (show e > 0 by omega)
    rw [Nat.mul_comm] at h5
    omega
  have h7 : (2 : Int) ^ b ≤ 2 ^ ((b + e - 1) / e * e) := by
    have := Nat.pow_le_pow_right (show 0 < 2 by decide) h4
    have h8 : ((2 ^ b : Nat) : Int) ≤ ((2 ^ ((b + e - 1) / e * e) : Nat) : Int) := by omega
    rw [Int.natCast_pow, Int.natCast_pow] at h8
    exact h8
  rw [Int.pow_mul] at h7
  have h9 : ((2 : Int) ^ ((b + e - 1) / e)) ^ e ≤ ((2 : Int) ^ ((b + e - 1) / e) + 1) ^ e := by
    have h10 : 0 ≤ (2 : Int) ^ ((b + e - 1) / e) := Int.pow_nonneg (by decide)
    generalize (2 : Int) ^ ((b + e - 1) / e) = x at *
    clear h7 h4 h1 h
    induction e with
    | zero => simp
    | succ k ih =>
      rcases Nat.eq_zero_or_pos k with z | z
      · subst z
        rw [Int.pow_succ x 0, Int.pow_succ (x + 1) 0, Int.pow_zero, Int.pow_zero]
        omega
      · rw [Int.pow_succ, Int.pow_succ]
        exact Int.mul_le_mul (ih (by omega)) (by omega) h10 (Int.pow_nonneg (by omega))
  omega
/-- the ceiling of a / b -/
theorem ceil_ok {a b : Int} (hb : 1 ≤ b) : (-(-a / b) - 1) * b < a ∧ a ≤ -(-a / b) * b := by
  have h1 := Int.lt_ediv_add_one_mul_self (-a) (show 0 < b by omega)
  have h2 := Int.ediv_mul_le (-a) (show b ≠ 0 by omega)
  generalize -a / b = q at *
  constructor <;> grind
theorem bits_lt {n : Int} (h : n ≠ 0) : n.natAbs < 2 ^ Builtin.Int.intBits n := by
  unfold Builtin.Int.intBits
  rw [if_neg (show ¬ (n == 0) = true by simpa using h)]
  exact Nat.lt_log2_self
theorem bits_le {n : Int} {k : Nat} (h : Bd k n) : Builtin.Int.intBits n ≤ k := PyProof.Rows.intBits_le h.lt
/-- the refusal of a name, as data -/
def refD (n : Str) : D := .tup [.str "OutOfRange", .str n, .bl true, .bl true, .bl false]
end Sn

namespace Lw
open PySem PySem.Spec PyProof.Rows L2 Sn
/-! ### the text by places -/
def top (i : Nat) : Stmt := PySem.Challenge.pw_soontoogreat_k01_roots_powers_ceilings.main.body.getD i (.Pass ⟨0, 0, 0, 0⟩)
abbrev s_root_guess : Stmt := top 8
abbrev s_floor_root : Stmt := top 9
abbrev s_raised : Stmt := top 10
abbrev s_ceiling : Stmt := top 11
abbrev s__law_store : Stmt := top 13
abbrev s__law_mixed : Stmt := top 14
abbrev s__law_blend : Stmt := top 15
abbrev s__law_take : Stmt := top 16
abbrev s__law_pick : Stmt := top 17
abbrev s__law_same : Stmt := top 18
abbrev s__law_plain_keys : Stmt := top 19
abbrev s__law_rising : Stmt := top 20
abbrev s__law_number : Stmt := top 21
abbrev s__law_call : Stmt := top 22
abbrev s__law_refused : Stmt := top 23
abbrev s__law_whole_of : Stmt := top 24
abbrev s__law_root_right : Stmt := top 25
abbrev s__law_ceiling_right : Stmt := top 26
abbrev s__law_root_case : Stmt := top 27
abbrev s__law_power_right : Stmt := top 28
abbrev s_law : Stmt := top 29
abbrev s_OutOfRange_init : Stmt := inClass (top 4) 0
/-! ### the facts of the top -/
def d_root_guess : He.DefD := ⟨("root_guess", none), "root_guess", "root_guess", defArgs s_root_guess, defBody s_root_guess, defScope s_root_guess, [], []⟩
def d_floor_root : He.DefD := ⟨("floor_root", none), "floor_root", "floor_root", defArgs s_floor_root, defBody s_floor_root, defScope s_floor_root, [], []⟩
def d_raised : He.DefD := ⟨("raised", none), "raised", "raised", defArgs s_raised, defBody s_raised, defScope s_raised, [], []⟩
def d_ceiling : He.DefD := ⟨("ceiling", none), "ceiling", "ceiling", defArgs s_ceiling, defBody s_ceiling, defScope s_ceiling, [], []⟩
def d__law_store : He.DefD := ⟨("_law_store", none), "_law_store", "_law_store", defArgs s__law_store, defBody s__law_store, defScope s__law_store, [], []⟩
def d__law_mixed : He.DefD := ⟨("_law_mixed", none), "_law_mixed", "_law_mixed", defArgs s__law_mixed, defBody s__law_mixed, defScope s__law_mixed, [], []⟩
def d__law_blend : He.DefD := ⟨("_law_blend", none), "_law_blend", "_law_blend", defArgs s__law_blend, defBody s__law_blend, defScope s__law_blend, [], []⟩
def d__law_take : He.DefD := ⟨("_law_take", none), "_law_take", "_law_take", defArgs s__law_take, defBody s__law_take, defScope s__law_take, [], []⟩
def d__law_pick : He.DefD := ⟨("_law_pick", none), "_law_pick", "_law_pick", defArgs s__law_pick, defBody s__law_pick, defScope s__law_pick, [], []⟩
def d__law_same : He.DefD := ⟨("_law_same", none), "_law_same", "_law_same", defArgs s__law_same, defBody s__law_same, defScope s__law_same, [], []⟩
def d__law_plain_keys : He.DefD := ⟨("_law_plain_keys", none), "_law_plain_keys", "_law_plain_keys", defArgs s__law_plain_keys, defBody s__law_plain_keys, defScope s__law_plain_keys, [], []⟩
def d__law_rising : He.DefD := ⟨("_law_rising", none), "_law_rising", "_law_rising", defArgs s__law_rising, defBody s__law_rising, defScope s__law_rising, [], []⟩
def d__law_number : He.DefD := ⟨("_law_number", none), "_law_number", "_law_number", defArgs s__law_number, defBody s__law_number, defScope s__law_number, [], []⟩
def d__law_call : He.DefD := ⟨("_law_call", none), "_law_call", "_law_call", defArgs s__law_call, defBody s__law_call, defScope s__law_call, [], []⟩
def d__law_refused : He.DefD := ⟨("_law_refused", none), "_law_refused", "_law_refused", defArgs s__law_refused, defBody s__law_refused, defScope s__law_refused, [], []⟩
def d__law_whole_of : He.DefD := ⟨("_law_whole_of", none), "_law_whole_of", "_law_whole_of", defArgs s__law_whole_of, defBody s__law_whole_of, defScope s__law_whole_of, [], []⟩
def d__law_root_right : He.DefD := ⟨("_law_root_right", none), "_law_root_right", "_law_root_right", defArgs s__law_root_right, defBody s__law_root_right, defScope s__law_root_right, [], []⟩
def d__law_ceiling_right : He.DefD := ⟨("_law_ceiling_right", none), "_law_ceiling_right", "_law_ceiling_right", defArgs s__law_ceiling_right, defBody s__law_ceiling_right, defScope s__law_ceiling_right, [], []⟩
def d__law_root_case : He.DefD := ⟨("_law_root_case", none), "_law_root_case", "_law_root_case", defArgs s__law_root_case, defBody s__law_root_case, defScope s__law_root_case, [], []⟩
def d__law_power_right : He.DefD := ⟨("_law_power_right", none), "_law_power_right", "_law_power_right", defArgs s__law_power_right, defBody s__law_power_right, defScope s__law_power_right, [], []⟩
def d_law : He.DefD := ⟨("law", none), "law", "law", defArgs s_law, defBody s_law, defScope s_law, [], []⟩
def d_OutOfRange_init : He.DefD := ⟨("OutOfRange", some "__init__"), "__init__", "OutOfRange.__init__", defArgs s_OutOfRange_init, defBody s_OutOfRange_init, defScope s_OutOfRange_init, [], []⟩
def fa_0 : List He.Fa := [.glo "root_guess", .glo "floor_root", .glo "raised", .glo "ceiling", .glo "_law_store", .glo "_law_mixed", .glo "_law_blend", .glo "_law_take", .glo "_law_pick", .glo "_law_same", .glo "_law_plain_keys", .glo "_law_rising", .glo "_law_number", .glo "_law_call", .glo "_law_refused", .glo "_law_whole_of", .glo "_law_root_right", .glo "_law_ceiling_right", .glo "_law_root_case", .glo "_law_power_right", .glo "law", .glo "TooGreatError", .glo "LargeCoefficient", .glo "TooDeep", .glo "OutOfRange", .int "GREATEST_ROOT" 64, .int "GREATEST_EXPONENT" 1000, .free "abs", .free "bool", .free "dict"]
def fa_1 : List He.Fa := [.free "int", .free "isinstance", .free "len", .free "list", .free "range", .free "str", .free "tuple", .free "ValueError", .exc "TooGreatError", .exc "LargeCoefficient", .exc "TooDeep"]
def fa : List He.Fa := fa_0 ++ fa_1
def fn_0 : List He.DefD := [d_root_guess, d_floor_root, d_raised, d_ceiling, d__law_store, d__law_mixed, d__law_blend, d__law_take, d__law_pick, d__law_same, d__law_plain_keys, d__law_rising, d__law_number, d__law_call, d__law_refused, d__law_whole_of, d__law_root_right, d__law_ceiling_right, d__law_root_case, d__law_power_right, d_law, d_OutOfRange_init]
def fn : List He.DefD := fn_0
def ex_0 (K : PySem.W.Frag) : Bool := excCB K (He.ga K "TooGreatError") && (excCB K (He.ga K "LargeCoefficient") && (excCB K (He.ga K "TooDeep") && (excCB K (He.ga K "OutOfRange") && (oexB K (He.ga K "OutOfRange") && (decide (PySem.W.findIn K (.ref (He.ga K "OutOfRange")) "name" = some none) && (decide (PySem.W.findIn K (.ref (He.ga K "OutOfRange")) "__init__" = some (some (.ref (He.fAd K ("OutOfRange", some "__init__"))))) && (decide (PySem.W.typeIn K (.ref (He.fAd K ("OutOfRange", some "__init__"))) = some (.type "function")) && (decide (PySem.W.exmOne K (.ref (He.ga K "TooGreatError")) (.ref (He.ga K "TooGreatError")) = some true) && (decide (PySem.W.kitOne K (.ref (He.ga K "TooGreatError")) (.ref (He.ga K "TooGreatError")) = some true) && (decide (PySem.W.exmOne K (.ref (He.ga K "TooGreatError")) (.ref (He.ga K "LargeCoefficient")) = some false) && (decide (PySem.W.kitOne K (.ref (He.ga K "TooGreatError")) (.ref (He.ga K "LargeCoefficient")) = some false) && (decide (PySem.W.exmOne K (.ref (He.ga K "TooGreatError")) (.ref (He.ga K "TooDeep")) = some false) && (decide (PySem.W.kitOne K (.ref (He.ga K "TooGreatError")) (.ref (He.ga K "TooDeep")) = some false) && (decide (PySem.W.exmOne K (.ref (He.ga K "TooGreatError")) (.ref (He.ga K "OutOfRange")) = some false) && (decide (PySem.W.kitOne K (.ref (He.ga K "TooGreatError")) (.ref (He.ga K "OutOfRange")) = some false) && (decide (PySem.W.kitOne K (.ref (He.ga K "TooGreatError")) (.type "ValueError") = some true) && (decide (PySem.W.exmOne K (.ref (He.ga K "LargeCoefficient")) (.ref (He.ga K "TooGreatError")) = some true) && (decide (PySem.W.kitOne K (.ref (He.ga K "LargeCoefficient")) (.ref (He.ga K "TooGreatError")) = some true) && (decide (PySem.W.exmOne K (.ref (He.ga K "LargeCoefficient")) (.ref (He.ga K "LargeCoefficient")) = some true) && (decide (PySem.W.kitOne K (.ref (He.ga K "LargeCoefficient")) (.ref (He.ga K "LargeCoefficient")) = some true) && (decide (PySem.W.exmOne K (.ref (He.ga K "LargeCoefficient")) (.ref (He.ga K "TooDeep")) = some false) && (decide (PySem.W.kitOne K (.ref (He.ga K "LargeCoefficient")) (.ref (He.ga K "TooDeep")) = some false) && (decide (PySem.W.exmOne K (.ref (He.ga K "LargeCoefficient")) (.ref (He.ga K "OutOfRange")) = some false) && (decide (PySem.W.kitOne K (.ref (He.ga K "LargeCoefficient")) (.ref (He.ga K "OutOfRange")) = some false) && (decide (PySem.W.kitOne K (.ref (He.ga K "LargeCoefficient")) (.type "ValueError") = some true) && (decide (He.ga K "LargeCoefficient" ≠ He.ga K "TooGreatError") && (decide (He.ga K "LargeCoefficient" ≠ He.ga K "TooDeep") && (decide (He.ga K "LargeCoefficient" ≠ He.ga K "OutOfRange") && (decide (PySem.W.exmOne K (.ref (He.ga K "TooDeep")) (.ref (He.ga K "TooGreatError")) = some true) && (decide (PySem.W.kitOne K (.ref (He.ga K "TooDeep")) (.ref (He.ga K "TooGreatError")) = some true) && (decide (PySem.W.exmOne K (.ref (He.ga K "TooDeep")) (.ref (He.ga K "LargeCoefficient")) = some false) && (decide (PySem.W.kitOne K (.ref (He.ga K "TooDeep")) (.ref (He.ga K "LargeCoefficient")) = some false) && (decide (PySem.W.exmOne K (.ref (He.ga K "TooDeep")) (.ref (He.ga K "TooDeep")) = some true) && (decide (PySem.W.kitOne K (.ref (He.ga K "TooDeep")) (.ref (He.ga K "TooDeep")) = some true) && (decide (PySem.W.exmOne K (.ref (He.ga K "TooDeep")) (.ref (He.ga K "OutOfRange")) = some false) && (decide (PySem.W.kitOne K (.ref (He.ga K "TooDeep")) (.ref (He.ga K "OutOfRange")) = some false) && (decide (PySem.W.kitOne K (.ref (He.ga K "TooDeep")) (.type "ValueError") = some true) && (decide (He.ga K "TooDeep" ≠ He.ga K "TooGreatError") && (decide (PySem.W.exmOne K (.ref (He.ga K "OutOfRange")) (.ref (He.ga K "TooGreatError")) = some true))))))))))))))))))))))))))))))))))))))))
def ex_1 (K : PySem.W.Frag) : Bool := decide (PySem.W.kitOne K (.ref (He.ga K "OutOfRange")) (.ref (He.ga K "TooGreatError")) = some true) && (decide (PySem.W.exmOne K (.ref (He.ga K "OutOfRange")) (.ref (He.ga K "LargeCoefficient")) = some false) && (decide (PySem.W.kitOne K (.ref (He.ga K "OutOfRange")) (.ref (He.ga K "LargeCoefficient")) = some false) && (decide (PySem.W.exmOne K (.ref (He.ga K "OutOfRange")) (.ref (He.ga K "TooDeep")) = some false) && (decide (PySem.W.kitOne K (.ref (He.ga K "OutOfRange")) (.ref (He.ga K "TooDeep")) = some false) && (decide (PySem.W.exmOne K (.ref (He.ga K "OutOfRange")) (.ref (He.ga K "OutOfRange")) = some true) && (decide (PySem.W.kitOne K (.ref (He.ga K "OutOfRange")) (.ref (He.ga K "OutOfRange")) = some true) && (decide (PySem.W.kitOne K (.ref (He.ga K "OutOfRange")) (.type "ValueError") = some true) && (decide (He.ga K "OutOfRange" ≠ He.ga K "TooGreatError") && (decide (He.ga K "OutOfRange" ≠ He.ga K "TooDeep"))))))))))
def exs (K : PySem.W.Frag) : Bool := ex_0 K && (ex_1 K)
/-- what the top has left, over any base -/
structure Base (P : Program) (w : World) (K : PySem.W.Frag) (mg : Str → Option Value) (base : Heap) : Prop where
  KX : K.In base
  G : base.Ns mainGlobals mg
  ex : exs K = true
  c : He.SaysD fa fn K
section
variable {P : Program} {w : World} {K : PySem.W.Frag} {mg : Str → Option Value} {base : Heap}
theorem gl_root_guess (B : Base P w K mg base) : mg "root_guess" = some (.ref (He.ga K "root_guess")) := He.glo_ok B.KX B.G (B.c.fact 0 (f := .glo "root_guess") rfl)
theorem gl_floor_root (B : Base P w K mg base) : mg "floor_root" = some (.ref (He.ga K "floor_root")) := He.glo_ok B.KX B.G (B.c.fact 1 (f := .glo "floor_root") rfl)
theorem gl_raised (B : Base P w K mg base) : mg "raised" = some (.ref (He.ga K "raised")) := He.glo_ok B.KX B.G (B.c.fact 2 (f := .glo "raised") rfl)
theorem gl_ceiling (B : Base P w K mg base) : mg "ceiling" = some (.ref (He.ga K "ceiling")) := He.glo_ok B.KX B.G (B.c.fact 3 (f := .glo "ceiling") rfl)
theorem gl__law_store (B : Base P w K mg base) : mg "_law_store" = some (.ref (He.ga K "_law_store")) := He.glo_ok B.KX B.G (B.c.fact 4 (f := .glo "_law_store") rfl)
theorem gl__law_mixed (B : Base P w K mg base) : mg "_law_mixed" = some (.ref (He.ga K "_law_mixed")) := He.glo_ok B.KX B.G (B.c.fact 5 (f := .glo "_law_mixed") rfl)
theorem gl__law_blend (B : Base P w K mg base) : mg "_law_blend" = some (.ref (He.ga K "_law_blend")) := He.glo_ok B.KX B.G (B.c.fact 6 (f := .glo "_law_blend") rfl)
theorem gl__law_take (B : Base P w K mg base) : mg "_law_take" = some (.ref (He.ga K "_law_take")) := He.glo_ok B.KX B.G (B.c.fact 7 (f := .glo "_law_take") rfl)
theorem gl__law_pick (B : Base P w K mg base) : mg "_law_pick" = some (.ref (He.ga K "_law_pick")) := He.glo_ok B.KX B.G (B.c.fact 8 (f := .glo "_law_pick") rfl)
theorem gl__law_same (B : Base P w K mg base) : mg "_law_same" = some (.ref (He.ga K "_law_same")) := He.glo_ok B.KX B.G (B.c.fact 9 (f := .glo "_law_same") rfl)
theorem gl__law_plain_keys (B : Base P w K mg base) : mg "_law_plain_keys" = some (.ref (He.ga K "_law_plain_keys")) := He.glo_ok B.KX B.G (B.c.fact 10 (f := .glo "_law_plain_keys") rfl)
theorem gl__law_rising (B : Base P w K mg base) : mg "_law_rising" = some (.ref (He.ga K "_law_rising")) := He.glo_ok B.KX B.G (B.c.fact 11 (f := .glo "_law_rising") rfl)
theorem gl__law_number (B : Base P w K mg base) : mg "_law_number" = some (.ref (He.ga K "_law_number")) := He.glo_ok B.KX B.G (B.c.fact 12 (f := .glo "_law_number") rfl)
theorem gl__law_call (B : Base P w K mg base) : mg "_law_call" = some (.ref (He.ga K "_law_call")) := He.glo_ok B.KX B.G (B.c.fact 13 (f := .glo "_law_call") rfl)
theorem gl__law_refused (B : Base P w K mg base) : mg "_law_refused" = some (.ref (He.ga K "_law_refused")) := He.glo_ok B.KX B.G (B.c.fact 14 (f := .glo "_law_refused") rfl)
theorem gl__law_whole_of (B : Base P w K mg base) : mg "_law_whole_of" = some (.ref (He.ga K "_law_whole_of")) := He.glo_ok B.KX B.G (B.c.fact 15 (f := .glo "_law_whole_of") rfl)
theorem gl__law_root_right (B : Base P w K mg base) : mg "_law_root_right" = some (.ref (He.ga K "_law_root_right")) := He.glo_ok B.KX B.G (B.c.fact 16 (f := .glo "_law_root_right") rfl)
theorem gl__law_ceiling_right (B : Base P w K mg base) : mg "_law_ceiling_right" = some (.ref (He.ga K "_law_ceiling_right")) := He.glo_ok B.KX B.G (B.c.fact 17 (f := .glo "_law_ceiling_right") rfl)
theorem gl__law_root_case (B : Base P w K mg base) : mg "_law_root_case" = some (.ref (He.ga K "_law_root_case")) := He.glo_ok B.KX B.G (B.c.fact 18 (f := .glo "_law_root_case") rfl)
theorem gl__law_power_right (B : Base P w K mg base) : mg "_law_power_right" = some (.ref (He.ga K "_law_power_right")) := He.glo_ok B.KX B.G (B.c.fact 19 (f := .glo "_law_power_right") rfl)
theorem gl_law (B : Base P w K mg base) : mg "law" = some (.ref (He.ga K "law")) := He.glo_ok B.KX B.G (B.c.fact 20 (f := .glo "law") rfl)
theorem gl_TooGreatError (B : Base P w K mg base) : mg "TooGreatError" = some (.ref (He.ga K "TooGreatError")) := He.glo_ok B.KX B.G (B.c.fact 21 (f := .glo "TooGreatError") rfl)
theorem gl_LargeCoefficient (B : Base P w K mg base) : mg "LargeCoefficient" = some (.ref (He.ga K "LargeCoefficient")) := He.glo_ok B.KX B.G (B.c.fact 22 (f := .glo "LargeCoefficient") rfl)
theorem gl_TooDeep (B : Base P w K mg base) : mg "TooDeep" = some (.ref (He.ga K "TooDeep")) := He.glo_ok B.KX B.G (B.c.fact 23 (f := .glo "TooDeep") rfl)
theorem gl_OutOfRange (B : Base P w K mg base) : mg "OutOfRange" = some (.ref (He.ga K "OutOfRange")) := He.glo_ok B.KX B.G (B.c.fact 24 (f := .glo "OutOfRange") rfl)
theorem ct_GREATEST_ROOT (B : Base P w K mg base) : ∃ t, mg "GREATEST_ROOT" = some (.int  64 t) := He.int_ok B.KX B.G (B.c.fact 25 (f := .int "GREATEST_ROOT" 64) rfl)
theorem ct_GREATEST_EXPONENT (B : Base P w K mg base) : ∃ t, mg "GREATEST_EXPONENT" = some (.int  1000 t) := He.int_ok B.KX B.G (B.c.fact 26 (f := .int "GREATEST_EXPONENT" 1000) rfl)
theorem fr_abs (B : Base P w K mg base) : mg "abs" = none := He.free_ok B.KX B.G (B.c.fact 27 (f := .free "abs") rfl)
theorem fr_bool (B : Base P w K mg base) : mg "bool" = none := He.free_ok B.KX B.G (B.c.fact 28 (f := .free "bool") rfl)
theorem fr_dict (B : Base P w K mg base) : mg "dict" = none := He.free_ok B.KX B.G (B.c.fact 29 (f := .free "dict") rfl)
theorem fr_int (B : Base P w K mg base) : mg "int" = none := He.free_ok B.KX B.G (B.c.fact 30 (f := .free "int") rfl)
theorem fr_isinstance (B : Base P w K mg base) : mg "isinstance" = none := He.free_ok B.KX B.G (B.c.fact 31 (f := .free "isinstance") rfl)
theorem fr_len (B : Base P w K mg base) : mg "len" = none := He.free_ok B.KX B.G (B.c.fact 32 (f := .free "len") rfl)
theorem fr_list (B : Base P w K mg base) : mg "list" = none := He.free_ok B.KX B.G (B.c.fact 33 (f := .free "list") rfl)
theorem fr_range (B : Base P w K mg base) : mg "range" = none := He.free_ok B.KX B.G (B.c.fact 34 (f := .free "range") rfl)
theorem fr_str (B : Base P w K mg base) : mg "str" = none := He.free_ok B.KX B.G (B.c.fact 35 (f := .free "str") rfl)
theorem fr_tuple (B : Base P w K mg base) : mg "tuple" = none := He.free_ok B.KX B.G (B.c.fact 36 (f := .free "tuple") rfl)
theorem fr_ValueError (B : Base P w K mg base) : mg "ValueError" = none := He.free_ok B.KX B.G (B.c.fact 37 (f := .free "ValueError") rfl)
theorem ex_TooGreatError (B : Base P w K mg base) : PySem.W.excIn K (He.ga K "TooGreatError") He.veBase "ValueError.__new__" = true ∧ PySem.W.keepIn K (.ref (He.ga K "TooGreatError")) = true ∧ PySem.W.subIn K (.ref (He.ga K "TooGreatError")) (.type "BaseException") = some true ∧ PySem.W.typeIn K (.ref (He.ga K "TooGreatError")) = some (.type "type") := He.exc_ok (B.c.fact 38 (f := .exc "TooGreatError") rfl)
theorem ex_LargeCoefficient (B : Base P w K mg base) : PySem.W.excIn K (He.ga K "LargeCoefficient") He.veBase "ValueError.__new__" = true ∧ PySem.W.keepIn K (.ref (He.ga K "LargeCoefficient")) = true ∧ PySem.W.subIn K (.ref (He.ga K "LargeCoefficient")) (.type "BaseException") = some true ∧ PySem.W.typeIn K (.ref (He.ga K "LargeCoefficient")) = some (.type "type") := He.exc_ok (B.c.fact 39 (f := .exc "LargeCoefficient") rfl)
theorem ex_TooDeep (B : Base P w K mg base) : PySem.W.excIn K (He.ga K "TooDeep") He.veBase "ValueError.__new__" = true ∧ PySem.W.keepIn K (.ref (He.ga K "TooDeep")) = true ∧ PySem.W.subIn K (.ref (He.ga K "TooDeep")) (.type "BaseException") = some true ∧ PySem.W.typeIn K (.ref (He.ga K "TooDeep")) = some (.type "type") := He.exc_ok (B.c.fact 40 (f := .exc "TooDeep") rfl)
theorem df_root_guess (B : Base P w K mg base) : ∃ fd, FunD K "root_guess" "root_guess" (defArgs s_root_guess) (defBody s_root_guess) (defScope s_root_guess) [] [] (He.ga K "root_guess") fd := B.c.def_ 0 (d := d_root_guess) rfl
theorem df_floor_root (B : Base P w K mg base) : ∃ fd, FunD K "floor_root" "floor_root" (defArgs s_floor_root) (defBody s_floor_root) (defScope s_floor_root) [] [] (He.ga K "floor_root") fd := B.c.def_ 1 (d := d_floor_root) rfl
theorem df_raised (B : Base P w K mg base) : ∃ fd, FunD K "raised" "raised" (defArgs s_raised) (defBody s_raised) (defScope s_raised) [] [] (He.ga K "raised") fd := B.c.def_ 2 (d := d_raised) rfl
theorem df_ceiling (B : Base P w K mg base) : ∃ fd, FunD K "ceiling" "ceiling" (defArgs s_ceiling) (defBody s_ceiling) (defScope s_ceiling) [] [] (He.ga K "ceiling") fd := B.c.def_ 3 (d := d_ceiling) rfl
theorem df__law_store (B : Base P w K mg base) : ∃ fd, FunD K "_law_store" "_law_store" (defArgs s__law_store) (defBody s__law_store) (defScope s__law_store) [] [] (He.ga K "_law_store") fd := B.c.def_ 4 (d := d__law_store) rfl
theorem df__law_mixed (B : Base P w K mg base) : ∃ fd, FunD K "_law_mixed" "_law_mixed" (defArgs s__law_mixed) (defBody s__law_mixed) (defScope s__law_mixed) [] [] (He.ga K "_law_mixed") fd := B.c.def_ 5 (d := d__law_mixed) rfl
theorem df__law_blend (B : Base P w K mg base) : ∃ fd, FunD K "_law_blend" "_law_blend" (defArgs s__law_blend) (defBody s__law_blend) (defScope s__law_blend) [] [] (He.ga K "_law_blend") fd := B.c.def_ 6 (d := d__law_blend) rfl
theorem df__law_take (B : Base P w K mg base) : ∃ fd, FunD K "_law_take" "_law_take" (defArgs s__law_take) (defBody s__law_take) (defScope s__law_take) [] [] (He.ga K "_law_take") fd := B.c.def_ 7 (d := d__law_take) rfl
theorem df__law_pick (B : Base P w K mg base) : ∃ fd, FunD K "_law_pick" "_law_pick" (defArgs s__law_pick) (defBody s__law_pick) (defScope s__law_pick) [] [] (He.ga K "_law_pick") fd := B.c.def_ 8 (d := d__law_pick) rfl
theorem df__law_same (B : Base P w K mg base) : ∃ fd, FunD K "_law_same" "_law_same" (defArgs s__law_same) (defBody s__law_same) (defScope s__law_same) [] [] (He.ga K "_law_same") fd := B.c.def_ 9 (d := d__law_same) rfl
theorem df__law_plain_keys (B : Base P w K mg base) : ∃ fd, FunD K "_law_plain_keys" "_law_plain_keys" (defArgs s__law_plain_keys) (defBody s__law_plain_keys) (defScope s__law_plain_keys) [] [] (He.ga K "_law_plain_keys") fd := B.c.def_ 10 (d := d__law_plain_keys) rfl
theorem df__law_rising (B : Base P w K mg base) : ∃ fd, FunD K "_law_rising" "_law_rising" (defArgs s__law_rising) (defBody s__law_rising) (defScope s__law_rising) [] [] (He.ga K "_law_rising") fd := B.c.def_ 11 (d := d__law_rising) rfl
theorem df__law_number (B : Base P w K mg base) : ∃ fd, FunD K "_law_number" "_law_number" (defArgs s__law_number) (defBody s__law_number) (defScope s__law_number) [] [] (He.ga K "_law_number") fd := B.c.def_ 12 (d := d__law_number) rfl
theorem df__law_call (B : Base P w K mg base) : ∃ fd, FunD K "_law_call" "_law_call" (defArgs s__law_call) (defBody s__law_call) (defScope s__law_call) [] [] (He.ga K "_law_call") fd := B.c.def_ 13 (d := d__law_call) rfl
theorem df__law_refused (B : Base P w K mg base) : ∃ fd, FunD K "_law_refused" "_law_refused" (defArgs s__law_refused) (defBody s__law_refused) (defScope s__law_refused) [] [] (He.ga K "_law_refused") fd := B.c.def_ 14 (d := d__law_refused) rfl
theorem df__law_whole_of (B : Base P w K mg base) : ∃ fd, FunD K "_law_whole_of" "_law_whole_of" (defArgs s__law_whole_of) (defBody s__law_whole_of) (defScope s__law_whole_of) [] [] (He.ga K "_law_whole_of") fd := B.c.def_ 15 (d := d__law_whole_of) rfl
theorem df__law_root_right (B : Base P w K mg base) : ∃ fd, FunD K "_law_root_right" "_law_root_right" (defArgs s__law_root_right) (defBody s__law_root_right) (defScope s__law_root_right) [] [] (He.ga K "_law_root_right") fd := B.c.def_ 16 (d := d__law_root_right) rfl
theorem df__law_ceiling_right (B : Base P w K mg base) : ∃ fd, FunD K "_law_ceiling_right" "_law_ceiling_right" (defArgs s__law_ceiling_right) (defBody s__law_ceiling_right) (defScope s__law_ceiling_right) [] [] (He.ga K "_law_ceiling_right") fd := B.c.def_ 17 (d := d__law_ceiling_right) rfl
theorem df__law_root_case (B : Base P w K mg base) : ∃ fd, FunD K "_law_root_case" "_law_root_case" (defArgs s__law_root_case) (defBody s__law_root_case) (defScope s__law_root_case) [] [] (He.ga K "_law_root_case") fd := B.c.def_ 18 (d := d__law_root_case) rfl
theorem df__law_power_right (B : Base P w K mg base) : ∃ fd, FunD K "_law_power_right" "_law_power_right" (defArgs s__law_power_right) (defBody s__law_power_right) (defScope s__law_power_right) [] [] (He.ga K "_law_power_right") fd := B.c.def_ 19 (d := d__law_power_right) rfl
theorem df_law (B : Base P w K mg base) : ∃ fd, FunD K "law" "law" (defArgs s_law) (defBody s_law) (defScope s_law) [] [] (He.ga K "law") fd := B.c.def_ 20 (d := d_law) rfl
theorem df_OutOfRange_init (B : Base P w K mg base) : ∃ fd, FunD K "__init__" "OutOfRange.__init__" (defArgs s_OutOfRange_init) (defBody s_OutOfRange_init) (defScope s_OutOfRange_init) [] [] (He.fAd K ("OutOfRange", some "__init__")) fd := B.c.def_ 21 (d := d_OutOfRange_init) rfl
theorem exf {K : PySem.W.Frag} (h : exs K = true) : (excCB K (He.ga K "TooGreatError") = true) ∧ (excCB K (He.ga K "LargeCoefficient") = true) ∧ (excCB K (He.ga K "TooDeep") = true) ∧ (excCB K (He.ga K "OutOfRange") = true) ∧ (oexB K (He.ga K "OutOfRange") = true) ∧ (PySem.W.findIn K (.ref (He.ga K "OutOfRange")) "name" = some none) ∧ (PySem.W.findIn K (.ref (He.ga K "OutOfRange")) "__init__" = some (some (.ref (He.fAd K ("OutOfRange", some "__init__"))))) ∧ (PySem.W.typeIn K (.ref (He.fAd K ("OutOfRange", some "__init__"))) = some (.type "function")) ∧ (PySem.W.exmOne K (.ref (He.ga K "TooGreatError")) (.ref (He.ga K "TooGreatError")) = some true) ∧ (PySem.W.kitOne K (.ref (He.ga K "TooGreatError")) (.ref (He.ga K "TooGreatError")) = some true) ∧ (PySem.W.exmOne K (.ref (He.ga K "TooGreatError")) (.ref (He.ga K "LargeCoefficient")) = some false) ∧ (PySem.W.kitOne K (.ref (He.ga K "TooGreatError")) (.ref (He.ga K "LargeCoefficient")) = some false) ∧ (PySem.W.exmOne K (.ref (He.ga K "TooGreatError")) (.ref (He.ga K "TooDeep")) = some false) ∧ (PySem.W.kitOne K (.ref (He.ga K "TooGreatError")) (.ref (He.ga K "TooDeep")) = some false) ∧ (PySem.W.exmOne K (.ref (He.ga K "TooGreatError")) (.ref (He.ga K "OutOfRange")) = some false) ∧ (PySem.W.kitOne K (.ref (He.ga K "TooGreatError")) (.ref (He.ga K "OutOfRange")) = some false) ∧ (PySem.W.kitOne K (.ref (He.ga K "TooGreatError")) (.type "ValueError") = some true) ∧ (PySem.W.exmOne K (.ref (He.ga K "LargeCoefficient")) (.ref (He.ga K "TooGreatError")) = some true) ∧ (PySem.W.kitOne K (.ref (He.ga K "LargeCoefficient")) (.ref (He.ga K "TooGreatError")) = some true) ∧ (PySem.W.exmOne K (.ref (He.ga K "LargeCoefficient")) (.ref (He.ga K "LargeCoefficient")) = some true) ∧ (PySem.W.kitOne K (.ref (He.ga K "LargeCoefficient")) (.ref (He.ga K "LargeCoefficient")) = some true) ∧ (PySem.W.exmOne K (.ref (He.ga K "LargeCoefficient")) (.ref (He.ga K "TooDeep")) = some false) ∧ (PySem.W.kitOne K (.ref (He.ga K "LargeCoefficient")) (.ref (He.ga K "TooDeep")) = some false) ∧ (PySem.W.exmOne K (.ref (He.ga K "LargeCoefficient")) (.ref (He.ga K "OutOfRange")) = some false) ∧ (PySem.W.kitOne K (.ref (He.ga K "LargeCoefficient")) (.ref (He.ga K "OutOfRange")) = some false) ∧ (PySem.W.kitOne K (.ref (He.ga K "LargeCoefficient")) (.type "ValueError") = some true) ∧ (He.ga K "LargeCoefficient" ≠ He.ga K "TooGreatError") ∧ (He.ga K "LargeCoefficient" ≠ He.ga K "TooDeep") ∧ (He.ga K "LargeCoefficient" ≠ He.ga K "OutOfRange") ∧ (PySem.W.exmOne K (.ref (He.ga K "TooDeep")) (.ref (He.ga K "TooGreatError")) = some true) ∧ (PySem.W.kitOne K (.ref (He.ga K "TooDeep")) (.ref (He.ga K "TooGreatError")) = some true) ∧ (PySem.W.exmOne K (.ref (He.ga K "TooDeep")) (.ref (He.ga K "LargeCoefficient")) = some false) ∧ (PySem.W.kitOne K (.ref (He.ga K "TooDeep")) (.ref (He.ga K "LargeCoefficient")) = some false) ∧ (PySem.W.exmOne K (.ref (He.ga K "TooDeep")) (.ref (He.ga K "TooDeep")) = some true) ∧ (PySem.W.kitOne K (.ref (He.ga K "TooDeep")) (.ref (He.ga K "TooDeep")) = some true) ∧ (PySem.W.exmOne K (.ref (He.ga K "TooDeep")) (.ref (He.ga K "OutOfRange")) = some false) ∧ (PySem.W.kitOne K (.ref (He.ga K "TooDeep")) (.ref (He.ga K "OutOfRange")) = some false) ∧ (PySem.W.kitOne K (.ref (He.ga K "TooDeep")) (.type "ValueError") = some true) ∧ (He.ga K "TooDeep" ≠ He.ga K "TooGreatError") ∧ (PySem.W.exmOne K (.ref (He.ga K "OutOfRange")) (.ref (He.ga K "TooGreatError")) = some true) ∧ (PySem.W.kitOne K (.ref (He.ga K "OutOfRange")) (.ref (He.ga K "TooGreatError")) = some true) ∧ (PySem.W.exmOne K (.ref (He.ga K "OutOfRange")) (.ref (He.ga K "LargeCoefficient")) = some false) ∧ (PySem.W.kitOne K (.ref (He.ga K "OutOfRange")) (.ref (He.ga K "LargeCoefficient")) = some false) ∧ (PySem.W.exmOne K (.ref (He.ga K "OutOfRange")) (.ref (He.ga K "TooDeep")) = some false) ∧ (PySem.W.kitOne K (.ref (He.ga K "OutOfRange")) (.ref (He.ga K "TooDeep")) = some false) ∧ (PySem.W.exmOne K (.ref (He.ga K "OutOfRange")) (.ref (He.ga K "OutOfRange")) = some true) ∧ (PySem.W.kitOne K (.ref (He.ga K "OutOfRange")) (.ref (He.ga K "OutOfRange")) = some true) ∧ (PySem.W.kitOne K (.ref (He.ga K "OutOfRange")) (.type "ValueError") = some true) ∧ (He.ga K "OutOfRange" ≠ He.ga K "TooGreatError") ∧ (He.ga K "OutOfRange" ≠ He.ga K "TooDeep") := by
  unfold exs at h
  simpa only [ex_0, ex_1, Bool.and_eq_true, decide_eq_true_eq, ne_eq, decide_not, Bool.not_eq_true', decide_eq_false_iff_not, and_assoc] using h
theorem xf_0 (B : Base P w K mg base) : (excCB K (He.ga K "TooGreatError") = true) := (exf B.ex).1
theorem xf_1 (B : Base P w K mg base) : (excCB K (He.ga K "LargeCoefficient") = true) := (exf B.ex).2.1
theorem xf_2 (B : Base P w K mg base) : (excCB K (He.ga K "TooDeep") = true) := (exf B.ex).2.2.1
theorem xf_3 (B : Base P w K mg base) : (excCB K (He.ga K "OutOfRange") = true) := (exf B.ex).2.2.2.1
theorem xf_4 (B : Base P w K mg base) : (oexB K (He.ga K "OutOfRange") = true) := (exf B.ex).2.2.2.2.1
theorem xf_5 (B : Base P w K mg base) : (PySem.W.findIn K (.ref (He.ga K "OutOfRange")) "name" = some none) := (exf B.ex).2.2.2.2.2.1
theorem xf_6 (B : Base P w K mg base) : (PySem.W.findIn K (.ref (He.ga K "OutOfRange")) "__init__" = some (some (.ref (He.fAd K ("OutOfRange", some "__init__"))))) := (exf B.ex).2.2.2.2.2.2.1
theorem xf_7 (B : Base P w K mg base) : (PySem.W.typeIn K (.ref (He.fAd K ("OutOfRange", some "__init__"))) = some (.type "function")) := (exf B.ex).2.2.2.2.2.2.2.1
theorem xf_8 (B : Base P w K mg base) : (PySem.W.exmOne K (.ref (He.ga K "TooGreatError")) (.ref (He.ga K "TooGreatError")) = some true) := (exf B.ex).2.2.2.2.2.2.2.2.1
theorem xf_9 (B : Base P w K mg base) : (PySem.W.kitOne K (.ref (He.ga K "TooGreatError")) (.ref (He.ga K "TooGreatError")) = some true) := (exf B.ex).2.2.2.2.2.2.2.2.2.1
theorem xf_10 (B : Base P w K mg base) : (PySem.W.exmOne K (.ref (He.ga K "TooGreatError")) (.ref (He.ga K "LargeCoefficient")) = some false) := (exf B.ex).2.2.2.2.2.2.2.2.2.2.1
theorem xf_11 (B : Base P w K mg base) : (PySem.W.kitOne K (.ref (He.ga K "TooGreatError")) (.ref (He.ga K "LargeCoefficient")) = some false) := (exf B.ex).2.2.2.2.2.2.2.2.2.2.2.1
theorem xf_12 (B : Base P w K mg base) : (PySem.W.exmOne K (.ref (He.ga K "TooGreatError")) (.ref (He.ga K "TooDeep")) = some false) := (exf B.ex).2.2.2.2.2.2.2.2.2.2.2.2.1
theorem xf_13 (B : Base P w K mg base) : (PySem.W.kitOne K (.ref (He.ga K "TooGreatError")) (.ref (He.ga K "TooDeep")) = some false) := (exf B.ex).2.2.2.2.2.2.2.2.2.2.2.2.2.1
theorem xf_14 (B : Base P w K mg base) : (PySem.W.exmOne K (.ref (He.ga K "TooGreatError")) (.ref (He.ga K "OutOfRange")) = some false) := (exf B.ex).2.2.2.2.2.2.2.2.2.2.2.2.2.2.1
theorem xf_15 (B : Base P w K mg base) : (PySem.W.kitOne K (.ref (He.ga K "TooGreatError")) (.ref (He.ga K "OutOfRange")) = some false) := (exf B.ex).2.2.2.2.2.2.2.2.2.2.2.2.2.2.2.1
theorem xf_16 (B : Base P w K mg base) : (PySem.W.kitOne K (.ref (He.ga K "TooGreatError")) (.type "ValueError") = some true) := (exf B.ex).2.2.2.2.2.2.2.2.2.2.2.2.2.2.2.2.1
theorem xf_17 (B : Base P w K mg base) : (PySem.W.exmOne K (.ref (He.ga K "LargeCoefficient")) (.ref (He.ga K "TooGreatError")) = some true) := (exf B.ex).2.2.2.2.2.2.2.2.2.2.2.2.2.2.2.2.2.1
theorem xf_18 (B : Base P w K mg base) : (PySem.W.kitOne K (.ref (He.ga K "LargeCoefficient")) (.ref (He.ga K "TooGreatError")) = some true) := (exf B.ex).2.2.2.2.2.2.2.2.2.2.2.2.2.2.2.2.2.2.1
theorem xf_19 (B : Base P w K mg base) : (PySem.W.exmOne K (.ref (He.ga K "LargeCoefficient")) (.ref (He.ga K "LargeCoefficient")) = some true) := (exf B.ex).2.2.2.2.2.2.2.2.2.2.2.2.2.2.2.2.2.2.2.1
theorem xf_20 (B : Base P w K mg base) : (PySem.W.kitOne K (.ref (He.ga K "LargeCoefficient")) (.ref (He.ga K "LargeCoefficient")) = some true) := (exf B.ex).2.2.2.2.2.2.2.2.2.2.2.2.2.2.2.2.2.2.2.2.1
theorem xf_21 (B : Base P w K mg base) : (PySem.W.exmOne K (.ref (He.ga K "LargeCoefficient")) (.ref (He.ga K "TooDeep")) = some false) := (exf B.ex).2.2.2.2.2.2.2.2.2.2.2.2.2.2.2.2.2.2.2.2.2.1
theorem xf_22 (B : Base P w K mg base) : (PySem.W.kitOne K (.ref (He.ga K "LargeCoefficient")) (.ref (He.ga K "TooDeep")) = some false) := (exf B.ex).2.2.2.2.2.2.2.2.2.2.2.2.2.2.2.2.2.2.2.2.2.2.1
theorem xf_23 (B : Base P w K mg base) : (PySem.W.exmOne K (.ref (He.ga K "LargeCoefficient")) (.ref (He.ga K "OutOfRange")) = some false) := (exf B.ex).2.2.2.2.2.2.2.2.2.2.2.2.2.2.2.2.2.2.2.2.2.2.2.1
theorem xf_24 (B : Base P w K mg base) : (PySem.W.kitOne K (.ref (He.ga K "LargeCoefficient")) (.ref (He.ga K "OutOfRange")) = some false) := (exf B.ex).2.2.2.2.2.2.2.2.2.2.2.2.2.2.2.2.2.2.2.2.2.2.2.2.1
theorem xf_25 (B : Base P w K mg base) : (PySem.W.kitOne K (.ref (He.ga K "LargeCoefficient")) (.type "ValueError") = some true) := (exf B.ex).2.2.2.2.2.2.2.2.2.2.2.2.2.2.2.2.2.2.2.2.2.2.2.2.2.1
theorem xf_26 (B : Base P w K mg base) : (He.ga K "LargeCoefficient" ≠ He.ga K "TooGreatError") := (exf B.ex).2.2.2.2.2.2.2.2.2.2.2.2.2.2.2.2.2.2.2.2.2.2.2.2.2.2.1
theorem xf_27 (B : Base P w K mg base) : (He.ga K "LargeCoefficient" ≠ He.ga K "TooDeep") := (exf B.ex).2.2.2.2.2.2.2.2.2.2.2.2.2.2.2.2.2.2.2.2.2.2.2.2.2.2.2.1
theorem xf_28 (B : Base P w K mg base) : (He.ga K "LargeCoefficient" ≠ He.ga K "OutOfRange") := (exf B.ex).2.2.2.2.2.2.2.2.2.2.2.2.2.2.2.2.2.2.2.2.2.2.2.2.2.2.2.2.1
theorem xf_29 (B : Base P w K mg base) : (PySem.W.exmOne K (.ref (He.ga K "TooDeep")) (.ref (He.ga K "TooGreatError")) = some true) := (exf B.ex).2.2.2.2.2.2.2.2.2.2.2.2.2.2.2.2.2.2.2.2.2.2.2.2.2.2.2.2.2.1
theorem xf_30 (B : Base P w K mg base) : (PySem.W.kitOne K (.ref (He.ga K "TooDeep")) (.ref (He.ga K "TooGreatError")) = some true) := (exf B.ex).2.2.2.2.2.2.2.2.2.2.2.2.2.2.2.2.2.2.2.2.2.2.2.2.2.2.2.2.2.2.1
theorem xf_31 (B : Base P w K mg base) : (PySem.W.exmOne K (.ref (He.ga K "TooDeep")) (.ref (He.ga K "LargeCoefficient")) = some false) := (exf B.ex).2.2.2.2.2.2.2.2.2.2.2.2.2.2.2.2.2.2.2.2.2.2.2.2.2.2.2.2.2.2.2.1
theorem xf_32 (B : Base P w K mg base) : (PySem.W.kitOne K (.ref (He.ga K "TooDeep")) (.ref (He.ga K "LargeCoefficient")) = some false) := (exf B.ex).2.2.2.2.2.2.2.2.2.2.2.2.2.2.2.2.2.2.2.2.2.2.2.2.2.2.2.2.2.2.2.2.1
theorem xf_33 (B : Base P w K mg base) : (PySem.W.exmOne K (.ref (He.ga K "TooDeep")) (.ref (He.ga K "TooDeep")) = some true) := (exf B.ex).2.2.2.2.2.2.2.2.2.2.2.2.2.2.2.2.2.2.2.2.2.2.2.2.2.2.2.2.2.2.2.2.2.1
theorem xf_34 (B : Base P w K mg base) : (PySem.W.kitOne K (.ref (He.ga K "TooDeep")) (.ref (He.ga K "TooDeep")) = some true) := (exf B.ex).2.2.2.2.2.2.2.2.2.2.2.2.2.2.2.2.2.2.2.2.2.2.2.2.2.2.2.2.2.2.2.2.2.2.1
theorem xf_35 (B : Base P w K mg base) : (PySem.W.exmOne K (.ref (He.ga K "TooDeep")) (.ref (He.ga K "OutOfRange")) = some false) := (exf B.ex).2.2.2.2.2.2.2.2.2.2.2.2.2.2.2.2.2.2.2.2.2.2.2.2.2.2.2.2.2.2.2.2.2.2.2.1
theorem xf_36 (B : Base P w K mg base) : (PySem.W.kitOne K (.ref (He.ga K "TooDeep")) (.ref (He.ga K "OutOfRange")) = some false) := (exf B.ex).2.2.2.2.2.2.2.2.2.2.2.2.2.2.2.2.2.2.2.2.2.2.2.2.2.2.2.2.2.2.2.2.2.2.2.2.1
theorem xf_37 (B : Base P w K mg base) : (PySem.W.kitOne K (.ref (He.ga K "TooDeep")) (.type "ValueError") = some true) := (exf B.ex).2.2.2.2.2.2.2.2.2.2.2.2.2.2.2.2.2.2.2.2.2.2.2.2.2.2.2.2.2.2.2.2.2.2.2.2.2.1
theorem xf_38 (B : Base P w K mg base) : (He.ga K "TooDeep" ≠ He.ga K "TooGreatError") := (exf B.ex).2.2.2.2.2.2.2.2.2.2.2.2.2.2.2.2.2.2.2.2.2.2.2.2.2.2.2.2.2.2.2.2.2.2.2.2.2.2.1
theorem xf_39 (B : Base P w K mg base) : (PySem.W.exmOne K (.ref (He.ga K "OutOfRange")) (.ref (He.ga K "TooGreatError")) = some true) := (exf B.ex).2.2.2.2.2.2.2.2.2.2.2.2.2.2.2.2.2.2.2.2.2.2.2.2.2.2.2.2.2.2.2.2.2.2.2.2.2.2.2.1
theorem xf_40 (B : Base P w K mg base) : (PySem.W.kitOne K (.ref (He.ga K "OutOfRange")) (.ref (He.ga K "TooGreatError")) = some true) := (exf B.ex).2.2.2.2.2.2.2.2.2.2.2.2.2.2.2.2.2.2.2.2.2.2.2.2.2.2.2.2.2.2.2.2.2.2.2.2.2.2.2.2.1
theorem xf_41 (B : Base P w K mg base) : (PySem.W.exmOne K (.ref (He.ga K "OutOfRange")) (.ref (He.ga K "LargeCoefficient")) = some false) := (exf B.ex).2.2.2.2.2.2.2.2.2.2.2.2.2.2.2.2.2.2.2.2.2.2.2.2.2.2.2.2.2.2.2.2.2.2.2.2.2.2.2.2.2.1
theorem xf_42 (B : Base P w K mg base) : (PySem.W.kitOne K (.ref (He.ga K "OutOfRange")) (.ref (He.ga K "LargeCoefficient")) = some false) := (exf B.ex).2.2.2.2.2.2.2.2.2.2.2.2.2.2.2.2.2.2.2.2.2.2.2.2.2.2.2.2.2.2.2.2.2.2.2.2.2.2.2.2.2.2.1
theorem xf_43 (B : Base P w K mg base) : (PySem.W.exmOne K (.ref (He.ga K "OutOfRange")) (.ref (He.ga K "TooDeep")) = some false) := (exf B.ex).2.2.2.2.2.2.2.2.2.2.2.2.2.2.2.2.2.2.2.2.2.2.2.2.2.2.2.2.2.2.2.2.2.2.2.2.2.2.2.2.2.2.2.1
theorem xf_44 (B : Base P w K mg base) : (PySem.W.kitOne K (.ref (He.ga K "OutOfRange")) (.ref (He.ga K "TooDeep")) = some false) := (exf B.ex).2.2.2.2.2.2.2.2.2.2.2.2.2.2.2.2.2.2.2.2.2.2.2.2.2.2.2.2.2.2.2.2.2.2.2.2.2.2.2.2.2.2.2.2.1
theorem xf_45 (B : Base P w K mg base) : (PySem.W.exmOne K (.ref (He.ga K "OutOfRange")) (.ref (He.ga K "OutOfRange")) = some true) := (exf B.ex).2.2.2.2.2.2.2.2.2.2.2.2.2.2.2.2.2.2.2.2.2.2.2.2.2.2.2.2.2.2.2.2.2.2.2.2.2.2.2.2.2.2.2.2.2.1
theorem xf_46 (B : Base P w K mg base) : (PySem.W.kitOne K (.ref (He.ga K "OutOfRange")) (.ref (He.ga K "OutOfRange")) = some true) := (exf B.ex).2.2.2.2.2.2.2.2.2.2.2.2.2.2.2.2.2.2.2.2.2.2.2.2.2.2.2.2.2.2.2.2.2.2.2.2.2.2.2.2.2.2.2.2.2.2.1
theorem xf_47 (B : Base P w K mg base) : (PySem.W.kitOne K (.ref (He.ga K "OutOfRange")) (.type "ValueError") = some true) := (exf B.ex).2.2.2.2.2.2.2.2.2.2.2.2.2.2.2.2.2.2.2.2.2.2.2.2.2.2.2.2.2.2.2.2.2.2.2.2.2.2.2.2.2.2.2.2.2.2.2.1
theorem xf_48 (B : Base P w K mg base) : (He.ga K "OutOfRange" ≠ He.ga K "TooGreatError") := (exf B.ex).2.2.2.2.2.2.2.2.2.2.2.2.2.2.2.2.2.2.2.2.2.2.2.2.2.2.2.2.2.2.2.2.2.2.2.2.2.2.2.2.2.2.2.2.2.2.2.2.1
theorem xf_49 (B : Base P w K mg base) : (He.ga K "OutOfRange" ≠ He.ga K "TooDeep") := (exf B.ex).2.2.2.2.2.2.2.2.2.2.2.2.2.2.2.2.2.2.2.2.2.2.2.2.2.2.2.2.2.2.2.2.2.2.2.2.2.2.2.2.2.2.2.2.2.2.2.2.2
theorem xk_TooGreatError (B : Base P w K mg base) : ExcC K (He.ga K "TooGreatError") := excCB_ok (xf_0 B)
theorem xm_TooGreatError_TooGreatError (B : Base P w K mg base) : PySem.W.exmOne K (.ref (He.ga K "TooGreatError")) (.ref (He.ga K "TooGreatError")) = some true := xf_8 B
theorem xi_TooGreatError_TooGreatError (B : Base P w K mg base) : PySem.W.kitOne K (.ref (He.ga K "TooGreatError")) (.ref (He.ga K "TooGreatError")) = some true := xf_9 B
theorem xm_TooGreatError_LargeCoefficient (B : Base P w K mg base) : PySem.W.exmOne K (.ref (He.ga K "TooGreatError")) (.ref (He.ga K "LargeCoefficient")) = some false := xf_10 B
theorem xi_TooGreatError_LargeCoefficient (B : Base P w K mg base) : PySem.W.kitOne K (.ref (He.ga K "TooGreatError")) (.ref (He.ga K "LargeCoefficient")) = some false := xf_11 B
theorem xm_TooGreatError_TooDeep (B : Base P w K mg base) : PySem.W.exmOne K (.ref (He.ga K "TooGreatError")) (.ref (He.ga K "TooDeep")) = some false := xf_12 B
theorem xi_TooGreatError_TooDeep (B : Base P w K mg base) : PySem.W.kitOne K (.ref (He.ga K "TooGreatError")) (.ref (He.ga K "TooDeep")) = some false := xf_13 B
theorem xm_TooGreatError_OutOfRange (B : Base P w K mg base) : PySem.W.exmOne K (.ref (He.ga K "TooGreatError")) (.ref (He.ga K "OutOfRange")) = some false := xf_14 B
theorem xi_TooGreatError_OutOfRange (B : Base P w K mg base) : PySem.W.kitOne K (.ref (He.ga K "TooGreatError")) (.ref (He.ga K "OutOfRange")) = some false := xf_15 B
theorem xv_TooGreatError (B : Base P w K mg base) : PySem.W.kitOne K (.ref (He.ga K "TooGreatError")) (.type "ValueError") = some true := xf_16 B
theorem xk_LargeCoefficient (B : Base P w K mg base) : ExcC K (He.ga K "LargeCoefficient") := excCB_ok (xf_1 B)
theorem xm_LargeCoefficient_TooGreatError (B : Base P w K mg base) : PySem.W.exmOne K (.ref (He.ga K "LargeCoefficient")) (.ref (He.ga K "TooGreatError")) = some true := xf_17 B
theorem xi_LargeCoefficient_TooGreatError (B : Base P w K mg base) : PySem.W.kitOne K (.ref (He.ga K "LargeCoefficient")) (.ref (He.ga K "TooGreatError")) = some true := xf_18 B
theorem xm_LargeCoefficient_LargeCoefficient (B : Base P w K mg base) : PySem.W.exmOne K (.ref (He.ga K "LargeCoefficient")) (.ref (He.ga K "LargeCoefficient")) = some true := xf_19 B
theorem xi_LargeCoefficient_LargeCoefficient (B : Base P w K mg base) : PySem.W.kitOne K (.ref (He.ga K "LargeCoefficient")) (.ref (He.ga K "LargeCoefficient")) = some true := xf_20 B
theorem xm_LargeCoefficient_TooDeep (B : Base P w K mg base) : PySem.W.exmOne K (.ref (He.ga K "LargeCoefficient")) (.ref (He.ga K "TooDeep")) = some false := xf_21 B
theorem xi_LargeCoefficient_TooDeep (B : Base P w K mg base) : PySem.W.kitOne K (.ref (He.ga K "LargeCoefficient")) (.ref (He.ga K "TooDeep")) = some false := xf_22 B
theorem xm_LargeCoefficient_OutOfRange (B : Base P w K mg base) : PySem.W.exmOne K (.ref (He.ga K "LargeCoefficient")) (.ref (He.ga K "OutOfRange")) = some false := xf_23 B
theorem xi_LargeCoefficient_OutOfRange (B : Base P w K mg base) : PySem.W.kitOne K (.ref (He.ga K "LargeCoefficient")) (.ref (He.ga K "OutOfRange")) = some false := xf_24 B
theorem xv_LargeCoefficient (B : Base P w K mg base) : PySem.W.kitOne K (.ref (He.ga K "LargeCoefficient")) (.type "ValueError") = some true := xf_25 B
theorem xn_LargeCoefficient_TooGreatError (B : Base P w K mg base) : He.ga K "LargeCoefficient" ≠ He.ga K "TooGreatError" := xf_26 B
theorem xn_LargeCoefficient_TooDeep (B : Base P w K mg base) : He.ga K "LargeCoefficient" ≠ He.ga K "TooDeep" := xf_27 B
theorem xn_LargeCoefficient_OutOfRange (B : Base P w K mg base) : He.ga K "LargeCoefficient" ≠ He.ga K "OutOfRange" := xf_28 B
theorem xk_TooDeep (B : Base P w K mg base) : ExcC K (He.ga K "TooDeep") := excCB_ok (xf_2 B)
theorem xm_TooDeep_TooGreatError (B : Base P w K mg base) : PySem.W.exmOne K (.ref (He.ga K "TooDeep")) (.ref (He.ga K "TooGreatError")) = some true := xf_29 B
theorem xi_TooDeep_TooGreatError (B : Base P w K mg base) : PySem.W.kitOne K (.ref (He.ga K "TooDeep")) (.ref (He.ga K "TooGreatError")) = some true := xf_30 B
theorem xm_TooDeep_LargeCoefficient (B : Base P w K mg base) : PySem.W.exmOne K (.ref (He.ga K "TooDeep")) (.ref (He.ga K "LargeCoefficient")) = some false := xf_31 B
theorem xi_TooDeep_LargeCoefficient (B : Base P w K mg base) : PySem.W.kitOne K (.ref (He.ga K "TooDeep")) (.ref (He.ga K "LargeCoefficient")) = some false := xf_32 B
theorem xm_TooDeep_TooDeep (B : Base P w K mg base) : PySem.W.exmOne K (.ref (He.ga K "TooDeep")) (.ref (He.ga K "TooDeep")) = some true := xf_33 B
theorem xi_TooDeep_TooDeep (B : Base P w K mg base) : PySem.W.kitOne K (.ref (He.ga K "TooDeep")) (.ref (He.ga K "TooDeep")) = some true := xf_34 B
theorem xm_TooDeep_OutOfRange (B : Base P w K mg base) : PySem.W.exmOne K (.ref (He.ga K "TooDeep")) (.ref (He.ga K "OutOfRange")) = some false := xf_35 B
theorem xi_TooDeep_OutOfRange (B : Base P w K mg base) : PySem.W.kitOne K (.ref (He.ga K "TooDeep")) (.ref (He.ga K "OutOfRange")) = some false := xf_36 B
theorem xv_TooDeep (B : Base P w K mg base) : PySem.W.kitOne K (.ref (He.ga K "TooDeep")) (.type "ValueError") = some true := xf_37 B
theorem xn_TooDeep_TooGreatError (B : Base P w K mg base) : He.ga K "TooDeep" ≠ He.ga K "TooGreatError" := xf_38 B
theorem xk_OutOfRange (B : Base P w K mg base) : ExcC K (He.ga K "OutOfRange") := excCB_ok (xf_3 B)
theorem xm_OutOfRange_TooGreatError (B : Base P w K mg base) : PySem.W.exmOne K (.ref (He.ga K "OutOfRange")) (.ref (He.ga K "TooGreatError")) = some true := xf_39 B
theorem xi_OutOfRange_TooGreatError (B : Base P w K mg base) : PySem.W.kitOne K (.ref (He.ga K "OutOfRange")) (.ref (He.ga K "TooGreatError")) = some true := xf_40 B
theorem xm_OutOfRange_LargeCoefficient (B : Base P w K mg base) : PySem.W.exmOne K (.ref (He.ga K "OutOfRange")) (.ref (He.ga K "LargeCoefficient")) = some false := xf_41 B
theorem xi_OutOfRange_LargeCoefficient (B : Base P w K mg base) : PySem.W.kitOne K (.ref (He.ga K "OutOfRange")) (.ref (He.ga K "LargeCoefficient")) = some false := xf_42 B
theorem xm_OutOfRange_TooDeep (B : Base P w K mg base) : PySem.W.exmOne K (.ref (He.ga K "OutOfRange")) (.ref (He.ga K "TooDeep")) = some false := xf_43 B
theorem xi_OutOfRange_TooDeep (B : Base P w K mg base) : PySem.W.kitOne K (.ref (He.ga K "OutOfRange")) (.ref (He.ga K "TooDeep")) = some false := xf_44 B
theorem xm_OutOfRange_OutOfRange (B : Base P w K mg base) : PySem.W.exmOne K (.ref (He.ga K "OutOfRange")) (.ref (He.ga K "OutOfRange")) = some true := xf_45 B
theorem xi_OutOfRange_OutOfRange (B : Base P w K mg base) : PySem.W.kitOne K (.ref (He.ga K "OutOfRange")) (.ref (He.ga K "OutOfRange")) = some true := xf_46 B
theorem xv_OutOfRange (B : Base P w K mg base) : PySem.W.kitOne K (.ref (He.ga K "OutOfRange")) (.type "ValueError") = some true := xf_47 B
theorem xn_OutOfRange_TooGreatError (B : Base P w K mg base) : He.ga K "OutOfRange" ≠ He.ga K "TooGreatError" := xf_48 B
theorem xn_OutOfRange_TooDeep (B : Base P w K mg base) : He.ga K "OutOfRange" ≠ He.ga K "TooDeep" := xf_49 B
theorem sc_OutOfRange_init : FnScope ["self", "name"] ["self", "name"] (defScope s_OutOfRange_init) := ⟨rfl, rfl, rfl, by decide +kernel, rfl, by decide +kernel, by decide +kernel⟩
theorem xc_OutOfRange (B : Base P w K mg base) : XC1 P w K mg base "OutOfRange" "name" (He.ga K "OutOfRange") where
  gl := gl_OutOfRange B
  ox := oexB_ok (xf_4 B)
  no := xf_5 B
  ini := by
    obtain ⟨fd, D⟩ := df_OutOfRange_init B
    exact ⟨He.fAd K ("OutOfRange", some "__init__"), fd, xf_6 B, xf_7 B, FunD.bindsN D (fun _ _ _ _ _ _ us hl => match us, hl with | [_, _], _ => rfl), init1_ok D sc_OutOfRange_init fun cdv A outer s H E => (pss_one (ps_ost (pv 0) (pv 1)))⟩
end
theorem sc__law_store : FnScope ["script", "cells", "seed", "cell"] ["script"] (defScope s__law_store) := ⟨rfl, rfl, rfl, by decide +kernel, rfl, by decide +kernel, by decide +kernel⟩
theorem sc__law_mixed : FnScope ["number", "count", "low", "high", "one", "two"] ["number", "count"] (defScope s__law_mixed) := ⟨rfl, rfl, rfl, by decide +kernel, rfl, by decide +kernel, by decide +kernel⟩
theorem sc__law_blend : FnScope ["number", "count", "many", "drawn", "span", "k"] ["number", "count", "many"] (defScope s__law_blend) := ⟨rfl, rfl, rfl, by decide +kernel, rfl, by decide +kernel, by decide +kernel⟩
theorem sc__law_take : FnScope ["store", "many", "cell", "drawn", "number"] ["store", "many"] (defScope s__law_take) := ⟨rfl, rfl, rfl, by decide +kernel, rfl, by decide +kernel, by decide +kernel⟩
theorem sc__law_rising : FnScope ["base", "count", "worked", "square", "left", "k"] ["base", "count"] (defScope s__law_rising) := ⟨rfl, rfl, rfl, by decide +kernel, rfl, by decide +kernel, by decide +kernel⟩
theorem sc__law_root_case : FnScope ["store", "count", "kind", "most", "root", "power"] ["store"] (defScope s__law_root_case) := ⟨rfl, rfl, rfl, by decide +kernel, rfl, by decide +kernel, by decide +kernel⟩
theorem sc_ceiling : FnScope ["a", "b"] ["a", "b"] (defScope s_ceiling) := ⟨rfl, rfl, rfl, by decide +kernel, rfl, by decide +kernel, by decide +kernel⟩
theorem sc_raised : FnScope ["b", "e", "result", "square", "left"] ["b", "e"] (defScope s_raised) := ⟨rfl, rfl, rfl, by decide +kernel, rfl, by decide +kernel, by decide +kernel⟩
theorem sc_root_guess : FnScope ["n", "e", "guess"] ["n", "e", "guess"] (defScope s_root_guess) := ⟨rfl, rfl, rfl, by decide +kernel, rfl, by decide +kernel, by decide +kernel⟩
theorem sc_floor_root : FnScope ["n", "e", "root", "guess"] ["n", "e"] (defScope s_floor_root) := ⟨rfl, rfl, rfl, by decide +kernel, rfl, by decide +kernel, by decide +kernel⟩
theorem sc__law_call : FnScope ["word", "one", "two", "bad", "sisters"] ["word", "one", "two"] (defScope s__law_call) := ⟨rfl, rfl, rfl, by decide +kernel, rfl, by decide +kernel, by decide +kernel⟩
theorem sc__law_same : FnScope ["told", "due", "left", "go", "pair", "one", "two", "key", "at"] ["told", "due"] (defScope s__law_same) := ⟨rfl, rfl, rfl, by decide +kernel, rfl, by decide +kernel, by decide +kernel⟩
theorem sc__law_refused : FnScope ["told", "name"] ["told", "name"] (defScope s__law_refused) := ⟨rfl, rfl, rfl, by decide +kernel, rfl, by decide +kernel, by decide +kernel⟩
theorem sc__law_ceiling_right : FnScope ["word", "one", "two", "told"] ["word", "one", "two"] (defScope s__law_ceiling_right) := ⟨rfl, rfl, rfl, by decide +kernel, rfl, by decide +kernel, by decide +kernel⟩
theorem sc__law_pick : FnScope ["store", "things"] ["store", "things"] (defScope s__law_pick) := ⟨rfl, rfl, rfl, by decide +kernel, rfl, by decide +kernel, by decide +kernel⟩
theorem sc__law_number : FnScope ["store", "kind", "sign", "base"] ["store"] (defScope s__law_number) := ⟨rfl, rfl, rfl, by decide +kernel, rfl, by decide +kernel, by decide +kernel⟩
theorem sc__law_whole_of : FnScope ["told"] ["told"] (defScope s__law_whole_of) := ⟨rfl, rfl, rfl, by decide +kernel, rfl, by decide +kernel, by decide +kernel⟩
theorem sc__law_root_right : FnScope ["number", "count", "told", "root"] ["number", "count"] (defScope s__law_root_right) := ⟨rfl, rfl, rfl, by decide +kernel, rfl, by decide +kernel, by decide +kernel⟩
theorem sc__law_power_right : FnScope ["store", "base", "count", "kind", "far"] ["store"] (defScope s__law_power_right) := ⟨rfl, rfl, rfl, by decide +kernel, rfl, by decide +kernel, by decide +kernel⟩
theorem sc_law : FnScope ["script", "store", "first", "cases", "far", "below", "case", "k", "divisor", "rest", "number"] ["script"] (defScope s_law) := ⟨rfl, rfl, rfl, by decide +kernel, rfl, by decide +kernel, by decide +kernel⟩
end Lw

/-! ### short steps (local macros over the library's own syntax) -/
open PySem PySem.Spec PyProof.Rows L2 Sn
local macro_rules | `(tactic| wtm_at "sd") => `(tactic| first
  | with_reducible exact trivial
  | with_reducible assumption
  | (show (0 : Int) < _; omega)
  | (show (0 : Int) < _; decide +kernel)
  | (show CDiv _ _; exact ⟨by omega, by omega⟩)
  | (show CMul _ _; exact Or.inr ⟨by decide, by decide⟩)
  | (show CMul _ _; exact Or.inl ⟨by decide, by decide⟩)
  | (show CMul _ _; exact Or.inl ⟨by omega, by omega⟩)
  | (show CMul _ _; exact Or.inr ⟨by omega, by omega⟩)
  | (show CShl _ _; exact cshl (by wtm_at "bd") (by omega) (by omega))
  | (show CPow _ _; exact ⟨by decide, by decide, by decide⟩)
  | (show CPowX _ _; exact ⟨by decide, by decide, by decide +kernel⟩)
  | (show CMulW _ _; exact cmulw (by wtm_at "bd") (by wtm_at "bd") (by omega))
  | (show CDivW _ _; exact cdivw (by omega) (by wtm_at "bd") (by omega))
  | (show CDivX _ _; exact cdivx (by omega) (by wtm_at "bd") (by omega))
  | omega)
local macro_rules | `(tactic| wtm_at "sz") => `(tactic| (apply Sn.szs; simp only [List.length_cons, List.length_nil, List.length_map, List.length_append]; omega))
local macro_rules | `(tactic| wtm_at "bd") => `(tactic| first
  | with_reducible assumption
  | exact Bd.lit (by decide +kernel)
  | exact Bd.om (by omega) (by omega)
  | exact Bd.neg (by wtm_at "bd")
  | exact Bd.mul (by wtm_at "bd") (by wtm_at "bd")
  | exact Bd.add (by wtm_at "bd") (by wtm_at "bd")
  | exact Bd.sub (by wtm_at "bd") (by wtm_at "bd"))
local macro_rules | `(tactic| wtm_at "vo") => `(tactic| first
  | with_reducible exact vo_eqI
  | with_reducible exact vo_neI
  | with_reducible exact vo_I0
  | with_reducible exact vo_B0
  | ((with_reducible apply vo_I); wtm_at "sd")
  | with_reducible exact vo_neg
  | with_reducible exact vo_isN
  | with_reducible exact vo_notN
  | with_reducible exact vo_eqS
  | with_reducible exact vo_neS
  | with_reducible exact vo_eqB
  | with_reducible exact vo_neB
  | ((with_reducible apply vo_ixL); with_reducible assumption)
  | ((with_reducible apply vo_ixT); with_reducible assumption)
  | ((with_reducible apply vo_ixT); exact rfl)
  | ((with_reducible apply vo_ixL); exact rfl)
  | ((with_reducible apply vo_ixA0); exact rfl; exact rfl)
  | ((with_reducible apply vo_ixA1); exact rfl; exact rfl)
  | ((with_reducible apply vo_ixA2); exact rfl; exact rfl))
local macro_rules | `(tactic| wtm_at "vc") => `(tactic| first
  | with_reducible exact vc_int1
  | with_reducible exact vc_abs
  | with_reducible exact vc_max2
  | with_reducible exact vc_min2
  | with_reducible exact vc_lenT
  | with_reducible exact vc_lenL
  | ((with_reducible apply vc_lenA0); exact rfl)
  | ((with_reducible apply vc_lenA1); exact rfl)
  | ((with_reducible apply vc_lenA2); exact rfl)
  | ((with_reducible apply vc_isi (b := false)); exact D.kd_kind rfl; exact rfl)
  | ((with_reducible apply vc_isi (b := true)); exact D.kd_kind rfl; exact rfl))
local macro_rules | `(tactic| wtm_at "va") => `(tactic| first
  | with_reducible exact va_nil
  | ((with_reducible apply va_cons); (solve | wtm_at "ve"); (solve | wtm_at "va")))
local macro_rules | `(tactic| wtm_at "ve") => `(tactic| first
  | ((with_reducible apply ve_var); exact rfl)
  | with_reducible exact ve_int
  | ((with_reducible apply ve_op); (solve | wtm_at "ve"); (solve | wtm_at "ve"); (solve | wtm_at "vo"))
  | ((with_reducible apply ve_cb); (solve | wtm_at "va"); (solve | wtm_at "vc"))
  | with_reducible exact ve_bl
  | with_reducible exact ve_str
  | with_reducible exact ve_non
  | with_reducible exact ve_ty
  | with_reducible exact ve_cls
  | ((with_reducible apply ve_chain); (solve | wtm_at "ve"); (solve | wtm_at "ve"); (solve | wtm_at "ve"); (solve | wtm_at "vo"); (solve | wtm_at "vo"))
  | ((with_reducible apply ve_bits); (solve | wtm_at "ve"))
  | ((with_reducible apply ve_un); (solve | wtm_at "ve"); (solve | wtm_at "vo"))
  | ((with_reducible apply ve_andV); (solve | wtm_at "ve"); (intro _; (solve | wtm_at "ve")))
  | ((with_reducible apply ve_orV); (solve | wtm_at "ve"); (intro _; (solve | wtm_at "ve")))
  | ((with_reducible apply ve_notV); (solve | wtm_at "ve")))
local macro_rules | `(tactic| wtm_at "hb") => `(tactic| (intro hb; (try simp only [decide_eq_true_eq, decide_eq_false_iff_not, Bool.not_eq_true', Bool.and_eq_true, Bool.or_eq_true, Bool.not_eq_false', Bool.and_eq_false_imp, Bool.or_eq_false_iff] at hb)))
local macro_rules | `(tactic| wtm_at "vt") => `(tactic| first
  | ((with_reducible apply vt_test); (solve | wtm_at "ve"))
  | ((with_reducible apply vt_andF); (solve | wtm_at "vt"); exact rfl)
  | ((with_reducible apply vt_and); (solve | wtm_at "vt"); (wtm_at "hb"; (solve | wtm_at "vt")))
  | ((with_reducible apply vt_orT); (solve | wtm_at "vt"); exact rfl)
  | ((with_reducible apply vt_or); (solve | wtm_at "vt"); (wtm_at "hb"; (solve | wtm_at "vt")))
  | ((with_reducible apply vt_not); (solve | wtm_at "vt"))
  | ((with_reducible apply vt_B); (solve | wtm_at "ve")))
/- one step of a statement: a plain value set, a block opened, an end -/
local macro_rules | `(tactic| wtm_at "rs") => `(tactic| first
  | with_reducible apply rs_seq
  | ((with_reducible apply rs_setv); (solve | wtm_at "ve"); exact rfl; (try dsimp only [List.set_cons_zero, List.set_cons_succ]))
  | ((with_reducible apply rs_parv); (solve | wtm_at "va"); exact rfl; (try dsimp only [List.set_cons_zero, List.set_cons_succ]))
  | ((with_reducible apply rs_retv); (solve | wtm_at "ve"))
  | ((with_reducible apply rs_setItem0); (solve | wtm_at "ve"); (solve | wtm_at "ve"); (solve | wtm_at "ve"); exact rfl; exact rfl; exact rfl; (try dsimp only [List.set_cons_zero, List.set_cons_succ]))
  | ((with_reducible apply rs_setItem1); (solve | wtm_at "ve"); (solve | wtm_at "ve"); (solve | wtm_at "ve"); exact rfl; exact rfl; exact rfl; (try dsimp only [List.set_cons_zero, List.set_cons_succ]))
  | with_reducible apply rs_next
  | with_reducible apply rs_brk
  | with_reducible apply rs_cont)
local macro_rules | `(tactic| wtm_at "ifT") => `(tactic| ((with_reducible apply rs_ifT); (solve | wtm_at "vt"); first | exact rfl | decide))
local macro_rules | `(tactic| wtm_at "ifF") => `(tactic| ((with_reducible apply rs_ifF); (solve | wtm_at "vt"); first | exact rfl | decide))
/- to a call: its arguments plain values -/
local macro_rules | `(tactic| wtm_at "re") => `(tactic| first
  | ((with_reducible apply re_v); (solve | wtm_at "ve"))
  | with_reducible apply re_call
  | with_reducible apply re_op
  | with_reducible apply re_un
  | with_reducible apply re_tup
  | with_reducible apply re_cb
  | with_reducible apply re_andV
  | with_reducible apply re_orV
  | with_reducible apply re_notV)
local macro_rules | `(tactic| wtm_at "ra") => `(tactic| first
  | with_reducible apply ra_nil
  | with_reducible apply ra_cons)
/- as far as it goes without a choice -/
local macro_rules | `(tactic| wtm_at "rx") => `(tactic| first
  | ((with_reducible apply re_v); (solve | wtm_at "ve"))
  | with_reducible apply re_op
  | with_reducible apply re_un
  | with_reducible apply re_call
  | with_reducible apply re_tup
  | with_reducible apply re_cb
  | with_reducible apply re_notV
  | with_reducible apply re_chain
  | ((with_reducible apply ra_v); (solve | wtm_at "va"))
  | with_reducible apply ra_cons
  | with_reducible apply ra_nil
  | ((with_reducible apply ro_v); (solve | wtm_at "vo"))
  | ((with_reducible apply rc_v); (solve | wtm_at "vc"))
  | ((with_reducible apply dt_i); exact rfl; (solve | wtm_at "sz"))
  | ((with_reducible apply rg_name); exact rfl; (try dsimp only [List.set_cons_zero, List.set_cons_succ]))
  | ((with_reducible apply rt_v); (solve | wtm_at "vt"))
  | with_reducible apply rt_not
  | with_reducible apply rt_B
  | with_reducible apply rt_test
  | with_reducible apply rt_or
  | with_reducible apply rt_and
  | with_reducible apply tb_b
  | ((with_reducible apply br_t); exact rfl)
  | ((with_reducible apply br_f); exact rfl)
  | ((with_reducible apply or_t); exact rfl)
  | ((with_reducible apply or_f); exact rfl))
local macro_rules | `(tactic| wtm_at "go1") => `(tactic| first
  | wtm_at "rs"
  | with_reducible apply rs_asg
  | with_reducible apply rs_ret
  | ((fail_if_success ((with_reducible apply rs_ifv); (solve | wtm_at "vt"))); (with_reducible apply rs_if))
  | wtm_at "rx")
local macro_rules | `(tactic| wtm_at "go") => `(tactic| repeat wtm_at "go1")
local macro_rules | `(tactic| wtm_at "b8") => `(tactic| first
  | with_reducible assumption
  | exact Bd.up (Bd.lit (by decide +kernel)) (by decide)
  | exact Bd.up (by wtm_at "bd") (by omega))
/- a frozen list of data, written -/
local macro_rules | `(tactic| wtm_at "fl") => `(tactic| ((with_reducible apply re_lst); wtm_at "go"; (with_reducible apply dl_f); exact rfl; (solve | wtm_at "sz"); wtm_at "go"))
open Lw
namespace Lw
section
variable {P : Program} {w : World} {K : PySem.W.Frag} {mg : Str → Option Value} {base : Heap}

/-! _law_store: a new store -/
def fs__law_store : FS := fun ws μ R _ => ∃ ns : List Int, ws = [.dat (.lst (ns.map .int))] ∧ ns.length ≤ 63 ∧ ∀ st s, Sto s → R (.at st) ((st, .lst s) :: μ)
theorem fn__law_store (B : Base P w K mg base) : Fn P w K mg base "_law_store" 1 ["script"] fs__law_store := by
  refine fn_mk (st := s__law_store) (gl__law_store B) (df__law_store B) sc__law_store (fun ws μ R X h => (by first | exact h.1 | (obtain ⟨_, rfl, _⟩ := h; rfl) | (obtain ⟨_, _, rfl, _⟩ := h; rfl) | (obtain ⟨_, _, _, rfl, _⟩ := h; rfl) | (obtain ⟨_, _, _, _, rfl, _⟩ := h; rfl) | (obtain ⟨_, _, _, _, _, rfl, _⟩ := h; rfl) | (obtain ⟨_, _, _, _, _, _, rfl, _⟩ := h; rfl) | (obtain ⟨_, _, _, _, _, _, _, rfl, _⟩ := h; rfl) | (obtain ⟨_, _, _, _, _, _, _, _, rfl, _⟩ := h; rfl))) (fun _ _ _ _ _ _ us hl => match us, hl with | [_], _ => rfl) fun cdv A outer s H E hr => ⟨_, (pss_cons (ps_set (i := 1) sc__law_store.nd rfl (Or.inl rfl) (pe_callTy cr_listOf (by rfl) (fr_list B) (by decide +kernel) (pa_cons (pv 0) pa_nil)))
  (pss_cons (ps_set (i := 2) sc__law_store.nd rfl (Or.inl rfl) (pe_op op_add pe_int (pe_op op_mul pe_int (pe_callB cr_len (by rfl) (fr_len B) (by decide +kernel) (pa_cons (pv 1) pa_nil)))))
  (pss_cons (ps_for (passes_of rfl) rfl (pi_list (pe_callTy cr_listOf (by rfl) (fr_list B) (by decide +kernel) (pa_cons (pv 1) pa_nil))) (pg_name (i := 3) sc__law_store.nd rfl (Or.inl rfl)) (pss_one (ps_set (i := 2) sc__law_store.nd rfl (Or.inl rfl) (pe_op op_mod (pe_callTy cr_int1 (by rfl) (fr_int B) (by decide +kernel) (pa_cons (pe_op op_add (pe_op op_add (pe_op op_mul (pv 2) pe_int) (pe_op op_mod (pe_callTy cr_int1 (by rfl) (fr_int B) (by decide +kernel) (pa_cons (pv 3) pa_nil)) pe_int)) pe_int) pa_nil)) pe_int))))
  (pss_one (ps_ret (pe_lst (pa_cons (pv 1) (pa_cons pe_int (pa_cons pe_int (pa_cons pe_int (pa_cons pe_int (pa_cons pe_int (pa_cons (pv 2) pa_nil))))))))))))), fun ws μ R X h => ?_⟩
  obtain ⟨ns, rfl, hl, hR⟩ := h
  change RS _ _ [some _, none, none, none] _ _
  (try dsimp only [cxOf])
  wtm_at "rs"
  refine rs_asg (re_cb (ra_v (by wtm_at "va") (rc_listF rfl (rg_name rfl ?_))))
  dsimp only [List.set_cons_zero, List.set_cons_succ]
  wtm_at "rs"
  wtm_at "rs"
  wtm_at "rs"
  refine rs_to (fun ε' μ' => ∃ s k, ε' = [some (.dat (.lst (ns.map .int))), some (.dat (.lst (ns.map .int))), some (.i s), k] ∧ μ' = μ) ?_ ?_
  · refine rs_forL (fun _ ε' μ' => ∃ s k, ε' = [some (.dat (.lst (ns.map .int))), some (.dat (.lst (ns.map .int))), some (.i s), k] ∧ μ' = μ) (re_cb (ra_v (by wtm_at "va") (rc_listF rfl ⟨_, rfl, ⟨_, _, rfl, rfl⟩, ?_, fun ε' μ' q => q⟩)))
    rintro i d ε' μ' hd ⟨s, k, rfl, rfl⟩
    obtain ⟨v, rfl⟩ : ∃ v, d = .int v := by
      rw [List.getElem?_map] at hd
      cases e : ns[i]? with
      | none => rw [e] at hd; cases hd
      | some v => rw [e] at hd; exact ⟨v, (Option.some.inj hd).symm⟩
    refine rg_name rfl ?_
    dsimp only [List.set_cons_zero, List.set_cons_succ]
    wtm_at "rs"
    exact ⟨_, _, rfl, rfl⟩
  · rintro ε' μ' ⟨s, k, rfl, rfl⟩
    refine rs_ret (re_lst (ra_v (by wtm_at "va") (dl_o (by wtm_at "sz") fun st => hR st _ (.mk ns 0 0 0 0 0 s (by decide) (by decide) (by decide)))))

/-! _law_mixed: a number from 0 to 2147483628 -/
def fs__law_mixed : FS := fun ws μ R _ => ∃ n c : Int, ws = [.i n, .i c] ∧ ∀ r, 0 ≤ r → r < 2147483629 → R (.i r) μ
theorem fn__law_mixed (B : Base P w K mg base) : Fn P w K mg base "_law_mixed" 1 ["number", "count"] fs__law_mixed := by
  refine fn_mk (st := s__law_mixed) (gl__law_mixed B) (df__law_mixed B) sc__law_mixed (fun ws μ R X h => (by first | exact h.1 | (obtain ⟨_, rfl, _⟩ := h; rfl) | (obtain ⟨_, _, rfl, _⟩ := h; rfl) | (obtain ⟨_, _, _, rfl, _⟩ := h; rfl) | (obtain ⟨_, _, _, _, rfl, _⟩ := h; rfl) | (obtain ⟨_, _, _, _, _, rfl, _⟩ := h; rfl) | (obtain ⟨_, _, _, _, _, _, rfl, _⟩ := h; rfl) | (obtain ⟨_, _, _, _, _, _, _, rfl, _⟩ := h; rfl) | (obtain ⟨_, _, _, _, _, _, _, _, rfl, _⟩ := h; rfl))) (fun _ _ _ _ _ _ us hl => match us, hl with | [_, _], _ => rfl) fun cdv A outer s H E hr => ⟨_, (pss_cons (ps_set (i := 2) sc__law_mixed.nd rfl (Or.inl rfl) (pe_op op_mod (pe_callTy cr_int1 (by rfl) (fr_int B) (by decide +kernel) (pa_cons (pv 0) pa_nil)) pe_int))
  (pss_cons (ps_set (i := 3) sc__law_mixed.nd rfl (Or.inl rfl) (pe_op op_mod (pe_callTy cr_int1 (by rfl) (fr_int B) (by decide +kernel) (pa_cons (pe_op op_fdivW (pe_callTy cr_int1 (by rfl) (fr_int B) (by decide +kernel) (pa_cons (pv 0) pa_nil)) pe_int) pa_nil)) pe_int))
  (pss_cons (ps_set (i := 4) sc__law_mixed.nd rfl (Or.inl rfl) (pe_op op_mod (pe_callTy cr_int1 (by rfl) (fr_int B) (by decide +kernel) (pa_cons (pe_op op_add (pe_op op_add (pe_op op_add (pe_op op_mul (pv 2) pe_int) (pe_op op_mul (pv 3) pe_int)) (pe_op op_mul (pv 1) pe_int)) pe_int) pa_nil)) pe_int))
  (pss_cons (ps_set (i := 5) sc__law_mixed.nd rfl (Or.inl rfl) (pe_op op_mod (pe_callTy cr_int1 (by rfl) (fr_int B) (by decide +kernel) (pa_cons (pe_op op_add (pe_op op_add (pe_op op_add (pe_op op_mul (pv 4) (pv 4)) (pe_op op_mul (pv 2) pe_int)) (pe_op op_mul (pv 1) pe_int)) pe_int) pa_nil)) pe_int))
  (pss_one (ps_ret (pe_op op_mod (pe_callTy cr_int1 (by rfl) (fr_int B) (by decide +kernel) (pa_cons (pe_op op_add (pe_op op_add (pe_op op_mul (pv 5) pe_int) (pe_op op_mul (pv 4) pe_int)) (pe_op op_mul (pe_op op_fdiv (pv 4) pe_int) (pe_op op_fdiv (pv 5) pe_int))) pa_nil)) pe_int))))))), fun ws μ R X h => ?_⟩
  obtain ⟨n, c, rfl, hR⟩ := h
  change RS _ _ [some _, some _, none, none, none, none] _ _
  (try dsimp only [cxOf])
  wtm_at "rs"
  wtm_at "rs"
  have h1 : 0 ≤ n % 2147483647 ∧ n % 2147483647 < 2147483647 := by omega
  generalize n % 2147483647 = low at h1 ⊢
  wtm_at "rs"
  wtm_at "rs"
  have h2 : 0 ≤ n / 2147483647 % 2147483629 ∧ n / 2147483647 % 2147483629 < 2147483629 := by omega
  generalize n / 2147483647 % 2147483629 = high at h2 ⊢
  wtm_at "rs"
  wtm_at "rs"
  have h3 : 0 ≤ (low * 48271 + high * 40014 + c * 69621 + 12345) % 2147483399 ∧ (low * 48271 + high * 40014 + c * 69621 + 12345) % 2147483399 < 2147483399 := by omega
  generalize (low * 48271 + high * 40014 + c * 69621 + 12345) % 2147483399 = one at h3 ⊢
  wtm_at "rs"
  wtm_at "rs"
  have h4 : 0 ≤ (one * one + low * 16807 + c * 30269 + 977) % 2147483647 ∧ (one * one + low * 16807 + c * 30269 + 977) % 2147483647 < 2147483647 := ⟨Int.emod_nonneg _ (by decide), Int.emod_lt_of_pos _ (by decide)⟩
  generalize (one * one + low * 16807 + c * 30269 + 977) % 2147483647 = two at h4 ⊢
  wtm_at "rs"
  exact hR _ (Int.emod_nonneg _ (by decide)) (Int.emod_lt_of_pos _ (by decide))

/-! _law_blend: a number from 0 to many - 1 -/
def fs__law_blend : FS := fun ws μ R _ => ∃ n c m : Int, ws = [.i n, .i c, .i m] ∧ 0 < m ∧ ∀ r, 0 ≤ r → r < m → R (.i r) μ
theorem fn__law_blend (B : Base P w K mg base) : Fn P w K mg base "_law_blend" 2 ["number", "count", "many"] fs__law_blend := by
  have F__law_mixed := fn__law_mixed B
  refine fn_mk (st := s__law_blend) (gl__law_blend B) (df__law_blend B) sc__law_blend (fun ws μ R X h => (by first | exact h.1 | (obtain ⟨_, rfl, _⟩ := h; rfl) | (obtain ⟨_, _, rfl, _⟩ := h; rfl) | (obtain ⟨_, _, _, rfl, _⟩ := h; rfl) | (obtain ⟨_, _, _, _, rfl, _⟩ := h; rfl) | (obtain ⟨_, _, _, _, _, rfl, _⟩ := h; rfl) | (obtain ⟨_, _, _, _, _, _, rfl, _⟩ := h; rfl) | (obtain ⟨_, _, _, _, _, _, _, rfl, _⟩ := h; rfl) | (obtain ⟨_, _, _, _, _, _, _, _, rfl, _⟩ := h; rfl))) (fun _ _ _ _ _ _ us hl => match us, hl with | [_, _, _], _ => rfl) fun cdv A outer s H E hr => ⟨_, (pss_cons (ps_set (i := 3) sc__law_blend.nd rfl (Or.inl rfl) (pe_fn F__law_mixed hr (by decide) rfl (takes_of rfl rfl rfl rfl) (pa_cons (pv 0) (pa_cons (pv 1) pa_nil))))
  (pss_cons (ps_set (i := 4) sc__law_blend.nd rfl (Or.inl rfl) pe_int)
  (pss_cons (ps_for (passes_of rfl) rfl (pi_range1 rfl (fr_range B) (pa_cons pe_int pa_nil)) (pg_name (i := 5) sc__law_blend.nd rfl (Or.inl rfl)) (pss_cons (ps_if (pt_cmpR op_ge (pv 4) (pe_op op_mul (pv 2) pe_int) (nomark _)) (pss_one ps_break) pss_nil)
  (pss_cons (ps_set (i := 3) sc__law_blend.nd rfl (Or.inl rfl) (pe_op op_add (pe_op op_mul (pv 3) pe_int) (pe_fn F__law_mixed hr (by decide) rfl (takes_of rfl rfl rfl rfl) (pa_cons (pe_op op_add (pe_op op_add (pv 0) pe_int) (pv 5)) (pa_cons (pe_op op_add (pe_op op_add (pe_op op_mul (pv 1) pe_int) (pv 5)) pe_int) pa_nil)))))
  (pss_one (ps_set (i := 4) sc__law_blend.nd rfl (Or.inl rfl) (pe_op op_mul (pv 4) pe_int))))))
  (pss_one (ps_ret (pe_op op_mod (pe_callTy cr_int1 (by rfl) (fr_int B) (by decide +kernel) (pa_cons (pv 3) pa_nil)) (pv 2))))))), fun ws μ R X h => ?_⟩
  obtain ⟨n, c, m, rfl, hm, hR⟩ := h
  change RS _ _ [some _, some _, some _, none, none, none] _ _
  (try dsimp only [cxOf])
  wtm_at "rs"
  refine rs_asg (re_call (ra_v (by wtm_at "va") (callF0 ⟨n, c, rfl, fun d _ _ => rg_name rfl ?_⟩)))
  rw [List.append_nil]
  wtm_at "rs"
  wtm_at "rs"
  wtm_at "rs"
  refine rs_to (fun ε' μ' => ∃ d s k, ε' = [some (.i n), some (.i c), some (.i m), some (.i d), some (.i s), k] ∧ μ' = μ) ?_ ?_
  · refine rs_forR1 (fun _ ε' μ' => ∃ d s k, ε' = [some (.i n), some (.i c), some (.i m), some (.i d), some (.i s), k] ∧ μ' = μ) (by wtm_at "va") (by decide) (by decide) ⟨_, _, _, rfl, rfl⟩ ?_ fun ε' μ' q => q
    rintro i ε' μ' hi ⟨d, s, k, rfl, rfl⟩
    wtm_at "rs"
    refine rs_ifv (by wtm_at "vt") (fun _ => ?_) (fun _ => ?_)
    · wtm_at "rs"
      exact ⟨_, _, _, rfl, rfl⟩
    · wtm_at "rs"
      wtm_at "rs"
      refine rs_asg (re_op (re_v (by wtm_at "ve") (re_call (ra_v (by wtm_at "va") (callF0 ⟨_, _, rfl, fun d' _ _ => ro_v (by wtm_at "vo") (rg_name rfl ?_)⟩)))))
      rw [List.append_nil]
      wtm_at "rs"
      exact ⟨_, _, _, rfl, rfl⟩
  · rintro ε' μ' ⟨d, s, k, rfl, rfl⟩
    wtm_at "rs"
    exact hR _ (Int.emod_nonneg _ (by omega)) (Int.emod_lt_of_pos _ hm)

/-! _law_take: a number from 0 to many - 1, 0 for many < 2; the store stays one -/
def fs__law_take : FS := fun ws μ R _ => ∃ (st : Addr) (s : List W) (m : Int), ws = [.at st, .i m] ∧ μ = [(st, .lst s)] ∧ Sto s ∧ Bd 8000 m ∧ ∀ r s', Sto s' → 0 ≤ r → (r < m ∨ (m < 2 ∧ r = 0)) → R (.i r) [(st, .lst s')]
theorem fn__law_take (B : Base P w K mg base) : Fn P w K mg base "_law_take" 3 ["store", "many"] fs__law_take := by
  have F__law_blend := fn__law_blend B
  refine fn_mk (st := s__law_take) (gl__law_take B) (df__law_take B) sc__law_take (fun ws μ R X h => (by first | exact h.1 | (obtain ⟨_, rfl, _⟩ := h; rfl) | (obtain ⟨_, _, rfl, _⟩ := h; rfl) | (obtain ⟨_, _, _, rfl, _⟩ := h; rfl) | (obtain ⟨_, _, _, _, rfl, _⟩ := h; rfl) | (obtain ⟨_, _, _, _, _, rfl, _⟩ := h; rfl) | (obtain ⟨_, _, _, _, _, _, rfl, _⟩ := h; rfl) | (obtain ⟨_, _, _, _, _, _, _, rfl, _⟩ := h; rfl) | (obtain ⟨_, _, _, _, _, _, _, _, rfl, _⟩ := h; rfl))) (fun _ _ _ _ _ _ us hl => match us, hl with | [_, _], _ => rfl) fun cdv A outer s H E hr => ⟨_, (pss_cons (ps_if (pt_cmpR op_lt (pv 1) pe_int (nomark _)) (pss_one (ps_ret pe_int)) pss_nil)
  (pss_cons (ps_asg (pe_op op_add (pe_ix ix_seq (pv 0) pe_int (fun _ _ => rfl)) pe_int) (pg_sub (pv 0) pe_int set_list))
  (pss_cons (ps_if (PW.pt (pw_and (pt_cmpR op_eq (pe_ix ix_seq (pv 0) pe_int (fun _ _ => rfl)) pe_int (nomark _)) (pw_and (pt_cmpR op_eq (pe_ix ix_seq (pv 0) pe_int (fun _ _ => rfl)) pe_int (nomark _)) (pw_and1 (pt_cmpR op_lt (pe_ix ix_seq (pv 0) pe_int (fun _ _ => rfl)) (pe_callB cr_len (by rfl) (fr_len B) (by decide +kernel) (pa_cons (pe_ix ix_seq (pv 0) pe_int (fun _ _ => rfl)) pa_nil)) (nomark _)))))) (pss_cons (ps_set (i := 2) sc__law_take.nd rfl (Or.inl rfl) (pe_callTy cr_int1 (by rfl) (fr_int B) (by decide +kernel) (pa_cons (pe_ix ix_seq (pe_ix ix_seq (pv 0) pe_int (fun _ _ => rfl)) (pe_ix ix_seq (pv 0) pe_int (fun _ _ => rfl)) (fun _ _ => rfl)) pa_nil)))
  (pss_cons (ps_asg (pe_op op_add (pe_ix ix_seq (pv 0) pe_int (fun _ _ => rfl)) pe_int) (pg_sub (pv 0) pe_int set_list))
  (pss_cons (ps_if (PW.pt (pw_or (pt_cmpR op_ge (pv 2) (pe_op op_pow pe_int pe_int) (nomark _)) (pw_or1 (pt_cmpR op_le (pv 2) (pe_un un_neg (pe_op op_pow pe_int pe_int)) (nomark _))))) (pss_one (ps_asg (pe_op op_mod (pe_callTy cr_int1 (by rfl) (fr_int B) (by decide +kernel) (pa_cons (pv 2) pa_nil)) (pe_op op_powX (pe_op op_pow pe_int pe_int) pe_int)) (pg_sub (pv 0) pe_int set_list))) pss_nil)
  (pss_one (ps_if (pt_cmpR op_eq (pe_ix ix_seq (pv 0) pe_int (fun _ _ => rfl)) pe_int (nomark _)) (pss_cons (ps_asg (pe_op op_mod (pe_callTy cr_int1 (by rfl) (fr_int B) (by decide +kernel) (pa_cons (pv 2) pa_nil)) (pe_op op_mul pe_int (pe_op op_pow pe_int pe_int))) (pg_sub (pv 0) pe_int set_list))
  (pss_one (ps_asg pe_int (pg_sub (pv 0) pe_int set_list)))) pss_nil))))) pss_nil)
  (pss_cons (ps_if (pt_cmpR op_gt (pe_ix ix_seq (pv 0) pe_int (fun _ _ => rfl)) pe_int (nomark _)) (pss_cons (ps_set (i := 3) sc__law_take.nd rfl (Or.inl rfl) (pe_op op_mod (pe_callTy cr_int1 (by rfl) (fr_int B) (by decide +kernel) (pa_cons (pe_ix ix_seq (pv 0) pe_int (fun _ _ => rfl)) pa_nil)) (pv 1)))
  (pss_cons (ps_asg (pe_op op_fdivW (pe_ix ix_seq (pv 0) pe_int (fun _ _ => rfl)) (pv 1)) (pg_sub (pv 0) pe_int set_list))
  (pss_one (ps_ret (pv 3))))) pss_nil)
  (pss_cons (ps_set (i := 4) sc__law_take.nd rfl (Or.inl rfl) (pe_ix ix_seq (pv 0) pe_int (fun _ _ => rfl)))
  (pss_cons (ps_if (pt_cmpR op_gt (pe_ix ix_seq (pv 0) pe_int (fun _ _ => rfl)) pe_int (nomark _)) (pss_cons (ps_asg (pe_op op_sub (pe_ix ix_seq (pv 0) pe_int (fun _ _ => rfl)) pe_int) (pg_sub (pv 0) pe_int set_list))
  (pss_one (ps_set (i := 4) sc__law_take.nd rfl (Or.inl rfl) (pe_ix ix_seq (pv 0) pe_int (fun _ _ => rfl))))) pss_nil)
  (pss_one (ps_ret (pe_fn F__law_blend hr (by decide) rfl (takes_of rfl rfl rfl rfl) (pa_cons (pv 4) (pa_cons (pe_ix ix_seq (pv 0) pe_int (fun _ _ => rfl)) (pa_cons (pv 1) pa_nil)))))))))))), fun ws μ R X h => ?_⟩
  obtain ⟨st, s, m, rfl, rfl, hS, hm, hR⟩ := h
  cases hS with
  | mk cs i r c n l sd hi hr' hn =>
  change RS _ _ [some _, some _, none, none, none] _ _
  (try dsimp only [cxOf])
  wtm_at "rs"
  refine rs_ifv (by wtm_at "vt") ?_ ?_
  · intro hb; (try simp only [decide_eq_true_eq, decide_eq_false_iff_not, Bool.not_eq_true', Bool.and_eq_true, Bool.or_eq_true, Bool.not_eq_false', Bool.and_eq_false_imp, Bool.or_eq_false_iff, Bool.not_true, Bool.not_false] at hb)
    wtm_at "rs"
    exact hR 0 _ (.mk cs i r c n l sd hi hr' hn) (by decide) (.inr ⟨hb, rfl⟩)
  intro hb; (try simp only [decide_eq_true_eq, decide_eq_false_iff_not, Bool.not_eq_true', Bool.and_eq_true, Bool.or_eq_true, Bool.not_eq_false', Bool.and_eq_false_imp, Bool.or_eq_false_iff, Bool.not_true, Bool.not_false] at hb)
  wtm_at "rs"
  wtm_at "rs"
  wtm_at "rs"
  wtm_at "rs"
  refine rs_to (fun ε' μ' => ∃ o s', ε' = [some (.at st), some (.i m), o, none, none] ∧ μ' = [(st, .lst s')] ∧ Sto s') ?_ ?_
  · refine rs_ifv (by wtm_at "vt") ?_ ?_
    · intro hb; (try simp only [decide_eq_true_eq, decide_eq_false_iff_not, Bool.not_eq_true', Bool.and_eq_true, Bool.or_eq_true, Bool.not_eq_false', Bool.and_eq_false_imp, Bool.or_eq_false_iff, Bool.not_true, Bool.not_false] at hb)
      obtain ⟨⟨hb1, hb2⟩, hb3⟩ : (r = 0 ∧ n = 0) ∧ i < (cs.map D.int).length := by
        first | exact ⟨⟨hb.1, hb.2.1⟩, hb.2.2⟩ | exact hb
      obtain ⟨v, hv⟩ := cell_at hi hb3
      repeat wtm_at "rs"
      refine rs_to (fun ε' μ' => ∃ r', 0 ≤ r' ∧ ε' = [some (.at st), some (.i m), some (.i v), none, none] ∧ μ' = [(st, .lst [.dat (.lst (cs.map .int)), .i (i + 1), .i r', .i (c + 1), .i n, .i l, .i sd])]) ?_ ?_
      · refine rs_ifv (by wtm_at "vt") (fun _ => ?_) (fun _ => ?_)
        · wtm_at "rs"
          exact ⟨_, Int.emod_nonneg _ (by decide +kernel), rfl, rfl⟩
        · wtm_at "rs"
          exact ⟨r, hr', rfl, rfl⟩
      · rintro ε' μ' ⟨r', hr2, rfl, rfl⟩
        refine rs_ifv (by wtm_at "vt") (fun _ => ?_) (fun _ => ?_)
        · repeat wtm_at "rs"
          exact ⟨_, _, rfl, rfl, .mk _ _ _ _ _ _ _ (by omega) hr2 (by decide)⟩
        · wtm_at "rs"
          exact ⟨_, _, rfl, rfl, .mk _ _ _ _ _ _ _ (by omega) hr2 hn⟩
    · intro _
      wtm_at "rs"
      exact ⟨_, _, rfl, rfl, .mk _ _ _ _ _ _ _ hi hr' hn⟩
  clear hi hr' hn
  rintro ε' μ' ⟨o, s', rfl, rfl, hS⟩
  cases hS with
  | mk cs i r c n l sd hi hr' hn =>
  have hm0 : 0 < m := by omega
  wtm_at "rs"
  refine rs_ifv (by wtm_at "vt") ?_ ?_
  · intro _
    repeat wtm_at "rs"
    exact hR _ _ (.mk _ _ _ _ _ _ _ hi (Int.ediv_nonneg hr' (by omega)) hn) (Int.emod_nonneg _ (by omega)) (.inl (Int.emod_lt_of_pos _ hm0))
  intro _
  repeat wtm_at "rs"
  refine rs_to (fun ε' μ' => ∃ s' num, ε' = [some (.at st), some (.i m), o, none, some (.i num)] ∧ μ' = [(st, .lst s')] ∧ Sto s') ?_ ?_
  · refine rs_ifv (by wtm_at "vt") ?_ ?_
    · intro hb; (try simp only [decide_eq_true_eq, decide_eq_false_iff_not, Bool.not_eq_true', Bool.and_eq_true, Bool.or_eq_true, Bool.not_eq_false', Bool.and_eq_false_imp, Bool.or_eq_false_iff, Bool.not_true, Bool.not_false] at hb)
      repeat wtm_at "rs"
      exact ⟨_, _, rfl, rfl, .mk _ _ _ _ _ _ _ hi hr' (by omega)⟩
    · intro _
      wtm_at "rs"
      exact ⟨_, _, rfl, rfl, .mk _ _ _ _ _ _ _ hi hr' hn⟩
  clear hi hr' hn
  rintro ε' μ' ⟨s', num, rfl, rfl, hS⟩
  cases hS with
  | mk cs i r c n l sd hi hr' hn =>
  refine rs_ret (re_call (ra_v (by wtm_at "va") (callF0 ⟨_, _, m, rfl, hm0, fun r' h1 h2 => hR r' _ (.mk _ _ _ _ _ _ _ hi hr' hn) h1 (.inl h2)⟩)))
theorem takeF {E : En} {ε : Ep} {μ : Mu} {Ψ : W → Mu → Prop} {st : Addr} {s : List W} {m : Int} (n : Nat) (e : μ.drop n = [(st, .lst s)]) (hS : Sto s) (hm : Bd 8000 m) (h : ∀ r s', Sto s' → 0 ≤ r → (r < m ∨ (m < 2 ∧ r = 0)) → Ψ (.i r) (μ.take n ++ [(st, .lst s')])) : CallF E fs__law_take [.at st, .i m] ε μ Ψ := ⟨n, st, s, m, rfl, e, hS, hm, h⟩
/-- many from 2 on: one below many; the store stands behind none, one, two other owned objects -/
theorem take0 {E : En} {ε : Ep} {Ψ : W → Mu → Prop} {st : Addr} {s : List W} {m : Int} (n : Nat) (hm : decide (m.natAbs < 2 ^ n ∧ 2 ≤ m ∧ n ≤ 8000) = true) (hS : Sto s) (h : ∀ r s', Sto s' → 0 ≤ r → r < m → Bd n r → Ψ (.i r) [(st, .lst s')]) : CallF E fs__law_take [.at st, .i m] ε [(st, .lst s)] Ψ := by
  obtain ⟨h1, h2, h3⟩ := of_decide_eq_true hm
  have hb : Bd n m := ⟨h1⟩
  exact takeF 0 rfl hS (hb.up h3) fun r s' hS' r0 r1 => h r s' hS' r0 (by omega) (hb.le (by omega))
theorem take1 {E : En} {ε : Ep} {Ψ : W → Mu → Prop} {st : Addr} {s : List W} {m : Int} {p : Addr × HC} (n : Nat) (hm : decide (m.natAbs < 2 ^ n ∧ 2 ≤ m ∧ n ≤ 8000) = true) (hS : Sto s) (h : ∀ r s', Sto s' → 0 ≤ r → r < m → Bd n r → Ψ (.i r) [p, (st, .lst s')]) : CallF E fs__law_take [.at st, .i m] ε [p, (st, .lst s)] Ψ := by
  obtain ⟨h1, h2, h3⟩ := of_decide_eq_true hm
  have hb : Bd n m := ⟨h1⟩
  exact takeF 1 rfl hS (hb.up h3) fun r s' hS' r0 r1 => h r s' hS' r0 (by omega) (hb.le (by omega))
theorem take2 {E : En} {ε : Ep} {Ψ : W → Mu → Prop} {st : Addr} {s : List W} {m : Int} {p q : Addr × HC} (n : Nat) (hm : decide (m.natAbs < 2 ^ n ∧ 2 ≤ m ∧ n ≤ 8000) = true) (hS : Sto s) (h : ∀ r s', Sto s' → 0 ≤ r → r < m → Bd n r → Ψ (.i r) [p, q, (st, .lst s')]) : CallF E fs__law_take [.at st, .i m] ε [p, q, (st, .lst s)] Ψ := by
  obtain ⟨h1, h2, h3⟩ := of_decide_eq_true hm
  have hb : Bd n m := ⟨h1⟩
  exact takeF 2 rfl hS (hb.up h3) fun r s' hS' r0 r1 => h r s' hS' r0 (by omega) (hb.le (by omega))

/-! _law_rising: a power -/
def fs__law_rising : FS := fun ws μ R _ => ∃ (b : Int) (n m : Nat), ws = [.i b, .i (n : Int)] ∧ Bd m b ∧ n < 4096 ∧ m * n ≤ 400000 ∧ R (.i (b ^ n)) μ
theorem fn__law_rising (B : Base P w K mg base) : Fn P w K mg base "_law_rising" 1 ["base", "count"] fs__law_rising := by
  refine fn_mk (st := s__law_rising) (gl__law_rising B) (df__law_rising B) sc__law_rising (fun ws μ R X h => (by first | exact h.1 | (obtain ⟨_, rfl, _⟩ := h; rfl) | (obtain ⟨_, _, rfl, _⟩ := h; rfl) | (obtain ⟨_, _, _, rfl, _⟩ := h; rfl) | (obtain ⟨_, _, _, _, rfl, _⟩ := h; rfl) | (obtain ⟨_, _, _, _, _, rfl, _⟩ := h; rfl) | (obtain ⟨_, _, _, _, _, _, rfl, _⟩ := h; rfl) | (obtain ⟨_, _, _, _, _, _, _, rfl, _⟩ := h; rfl) | (obtain ⟨_, _, _, _, _, _, _, _, rfl, _⟩ := h; rfl))) (fun _ _ _ _ _ _ us hl => match us, hl with | [_, _], _ => rfl) fun cdv A outer s H E hr => ⟨_, (pss_cons (ps_set (i := 2) sc__law_rising.nd rfl (Or.inl rfl) pe_int)
  (pss_cons (ps_set (i := 3) sc__law_rising.nd rfl (Or.inl rfl) (pv 0))
  (pss_cons (ps_set (i := 4) sc__law_rising.nd rfl (Or.inl rfl) (pv 1))
  (pss_cons (ps_for (passes_of rfl) rfl (pi_range1 rfl (fr_range B) (pa_cons pe_int pa_nil)) (pg_name (i := 5) sc__law_rising.nd rfl (Or.inl rfl)) (pss_cons (ps_if (pt_cmpR op_eq (pv 4) pe_int (nomark _)) (pss_one ps_break) pss_nil)
  (pss_cons (ps_if (pt_cmpR op_eq (pe_op op_mod (pe_callTy cr_int1 (by rfl) (fr_int B) (by decide +kernel) (pa_cons (pv 4) pa_nil)) pe_int) pe_int (nomark _)) (pss_one (ps_set (i := 2) sc__law_rising.nd rfl (Or.inl rfl) (pe_op op_mulW (pv 2) (pv 3)))) pss_nil)
  (pss_cons (ps_set (i := 4) sc__law_rising.nd rfl (Or.inl rfl) (pe_op op_fdiv (pv 4) pe_int))
  (pss_one (ps_if (pt_cmpR op_gt (pv 4) pe_int (nomark _)) (pss_one (ps_set (i := 3) sc__law_rising.nd rfl (Or.inl rfl) (pe_op op_mulW (pv 3) (pv 3)))) pss_nil))))))
  (pss_one (ps_ret (pv 2))))))), fun ws μ R X h => ?_⟩
  obtain ⟨b, n, m, rfl, hb, hn, hme, hR⟩ := h
  change RS _ _ [some _, some _, none, none, none, none] _ _
  (try dsimp only [cxOf])
  have hpw : ∀ i, i ≤ n → Bd 400001 (b ^ i) := fun i hi => (hb.pow i).up (by have := Nat.mul_le_mul_left m hi; omega)
  wtm_at "go"
  refine rs_to (fun ε' μ' => ∃ o l k, ε' = [some (.i b), some (.i (n : Int)), some (.i (b ^ n)), o, l, k] ∧ μ' = μ) ?_ ?_
  · refine rs_forR1 (fun t ε' μ' => ∃ (i j l : Nat) (sq : Int) (k : Option W), ε' = [some (.i b), some (.i (n : Int)), some (.i (b ^ i)), some (.i sq), some (.i (l : Int)), k] ∧ μ' = μ ∧ l * 2 ^ t < 4096 ∧ i + j * l = n ∧ 1 ≤ j ∧ (0 < l → sq = b ^ j)) (by wtm_at "va") (by decide) (by decide) ⟨0, 1, n, b, none, by simp, rfl, by simpa using hn, by omega, by omega, fun _ => (Int.pow_one b).symm⟩ ?_ ?_
    · rintro t ε' μ' ht ⟨i, j, l, sq, k, rfl, rfl, h2, hE, hj, hsq⟩
      dsimp only [List.set_cons_zero, List.set_cons_succ]
      wtm_at "go"
      refine rs_ifv (by wtm_at "vt") (fun z => ?_) (fun z => ?_)
      · have hl : l = 0 := by simpa using z
        subst hl
        have : i = n := by omega
        subst this
        wtm_at "go"
        exact ⟨_, _, _, rfl, rfl⟩
      have hl : 0 < l := by have := of_decide_eq_false z; omega
      have e1 := hsq hl
      subst e1
      have hjl : j * 1 ≤ j * l := Nat.mul_le_mul_left j hl
      have hbi := hpw i (by omega)
      have hbj := hpw j (by omega)
      have h2' : l / 2 * 2 ^ (t + 1) < 4096 := by
        rw [Nat.pow_succ, Nat.mul_comm (2 ^ t) 2, ← Nat.mul_assoc]
        exact Nat.lt_of_le_of_lt (Nat.mul_le_mul_right _ (Nat.div_mul_le_self l 2)) h2
      wtm_at "go"
      refine rs_to (fun ε'' μ'' => ∃ i' : Nat, ε'' = [some (.i b), some (.i (n : Int)), some (.i (b ^ i')), some (.i (b ^ j)), some (.i (l : Int)), some (.i (t : Int))] ∧ μ'' = μ' ∧ i' + j * (2 * (l / 2)) = n) ?_ ?_
      · refine rs_ifv (by wtm_at "vt") (fun q => ?_) (fun q => ?_)
        · have q1 : l % 2 = 1 := by have := of_decide_eq_true q; omega
          have hc : CMulW (b ^ i) (b ^ j) := cmulw hbi hbj (by omega)
          wtm_at "go"
          refine ⟨i + j, by rw [Int.pow_add], rfl, ?_⟩
          have e2 : l = 2 * (l / 2) + 1 := by omega
          have e3 : j * l = j * (2 * (l / 2)) + j := by rw [← Nat.mul_succ, Nat.succ_eq_add_one, ← e2]
          omega
        · have q1 : l % 2 = 0 := by have := of_decide_eq_false q; omega
          wtm_at "go"
          refine ⟨i, rfl, rfl, ?_⟩
          have e2 : l = 2 * (l / 2) := by omega
          rw [← e2]; exact hE
      rintro _ _ ⟨i', rfl, rfl, hE'⟩
      have e4 : j * (2 * (l / 2)) = (j + j) * (l / 2) := by grind
      wtm_at "go"
      refine rs_ifv (by wtm_at "vt") (fun q => ?_) (fun q => ?_)
      · have hc : CMulW (b ^ j) (b ^ j) := cmulw hbj hbj (by omega)
        wtm_at "go"
        exact ⟨i', j + j, l / 2, _, _, rfl, rfl, h2', by omega, by omega, fun _ => by rw [Int.pow_add]⟩
      · have q1 : l / 2 = 0 := by have := of_decide_eq_false q; omega
        wtm_at "go"
        exact ⟨i', j + j, l / 2, _, _, rfl, rfl, h2', by omega, by omega, fun z => by omega⟩
    · rintro ε' μ' ⟨i, j, l, sq, k, rfl, rfl, h2, hE, hj, hsq⟩
      have e12 : (12 : Int).toNat = 12 := by decide
      rw [e12] at h2
      have hl : l = 0 := by omega
      subst hl
      have : i = n := by omega
      subst this
      exact ⟨_, _, _, rfl, rfl⟩
  rintro ε' μ' ⟨o, l, k, rfl, rfl⟩
  wtm_at "go"
  exact hR

/-! _law_root_case: a number and a count -/
structure CaseD (d : D) : Prop where
  ex : ∃ n c, d = .tup [.int n, .int c] ∧ Bd 2000 n
theorem CaseD.mk' {n c : Int} {k : Nat} (h : Bd k n) (l : k ≤ 2000 := by decide) : CaseD (.tup [.int n, .int c]) := ⟨n, c, rfl, h.up l⟩
def fs__law_root_case : FS := fun ws μ R _ => ∃ (st : Addr) (s : List W), ws = [.at st] ∧ μ = [(st, .lst s)] ∧ Sto s ∧ ∀ n c s', Sto s' → Bd 2000 n → R (.dat (.tup [.int n, .int c])) [(st, .lst s')]
theorem fn__law_root_case (B : Base P w K mg base) : Fn P w K mg base "_law_root_case" 6 ["store"] fs__law_root_case := by
  have F__law_take := fn__law_take B
  have F__law_rising := fn__law_rising B
  refine fn_mk (st := s__law_root_case) (gl__law_root_case B) (df__law_root_case B) sc__law_root_case (fun ws μ R X h => (by first | exact h.1 | (obtain ⟨_, rfl, _⟩ := h; rfl) | (obtain ⟨_, _, rfl, _⟩ := h; rfl) | (obtain ⟨_, _, _, rfl, _⟩ := h; rfl) | (obtain ⟨_, _, _, _, rfl, _⟩ := h; rfl) | (obtain ⟨_, _, _, _, _, rfl, _⟩ := h; rfl) | (obtain ⟨_, _, _, _, _, _, rfl, _⟩ := h; rfl) | (obtain ⟨_, _, _, _, _, _, _, rfl, _⟩ := h; rfl) | (obtain ⟨_, _, _, _, _, _, _, _, rfl, _⟩ := h; rfl))) (fun _ _ _ _ _ _ us hl => match us, hl with | [_], _ => rfl) fun cdv A outer s H E hr => ⟨_, (pss_cons (ps_set (i := 1) sc__law_root_case.nd rfl (Or.inl rfl) (pe_op op_add pe_int (pe_fn F__law_take hr (by decide) rfl (takes_of rfl rfl rfl rfl) (pa_cons (pv 0) (pa_cons pe_int pa_nil)))))
  (pss_cons (ps_set (i := 2) sc__law_root_case.nd rfl (Or.inl rfl) (pe_fn F__law_take hr (by decide) rfl (takes_of rfl rfl rfl rfl) (pa_cons (pv 0) (pa_cons pe_int pa_nil))))
  (pss_cons (ps_if (pt_cmpR op_le (pv 2) pe_int (nomark _)) (pss_one (ps_set (i := 1) sc__law_root_case.nd rfl (Or.inl rfl) (pe_ix ix_seq (pe_lst (pa_cons pe_int (pa_cons pe_int (pa_cons pe_int (pa_cons pe_int (pa_cons pe_int pa_nil)))))) (pe_fn F__law_take hr (by decide) rfl (takes_of rfl rfl rfl rfl) (pa_cons (pv 0) (pa_cons pe_int pa_nil))) (fun _ _ => rfl)))) pss_nil)
  (pss_cons (ps_if (pt_cmpR op_ge (pv 2) pe_int (nomark _)) (pss_one (ps_set (i := 1) sc__law_root_case.nd rfl (Or.inl rfl) (pe_op op_add pe_int (pe_fn F__law_take hr (by decide) rfl (takes_of rfl rfl rfl rfl) (pa_cons (pv 0) (pa_cons pe_int pa_nil)))))) pss_nil)
  (pss_cons (ps_set (i := 3) sc__law_root_case.nd rfl (Or.inl rfl) (pe_op op_pow pe_int pe_int))
  (pss_cons (ps_if (pt_cmpR op_le (pv 1) pe_int (nomark _)) (pss_one (ps_set (i := 3) sc__law_root_case.nd rfl (Or.inl rfl) (pe_op op_pow pe_int pe_int))) pss_nil)
  (pss_cons (ps_if (pt_cmpR op_le (pv 1) pe_int (nomark _)) (pss_one (ps_set (i := 3) sc__law_root_case.nd rfl (Or.inl rfl) (pe_op op_pow pe_int pe_int))) pss_nil)
  (pss_cons (ps_set (i := 4) sc__law_root_case.nd rfl (Or.inl rfl) (pe_ix ix_seq (pe_lst (pa_cons (pe_fn F__law_take hr (by decide) rfl (takes_of rfl rfl rfl rfl) (pa_cons (pv 0) (pa_cons pe_int pa_nil))) (pa_cons (pe_fn F__law_take hr (by decide) rfl (takes_of rfl rfl rfl rfl) (pa_cons (pv 0) (pa_cons (pv 3) pa_nil))) pa_nil))) (pe_fn F__law_take hr (by decide) rfl (takes_of rfl rfl rfl rfl) (pa_cons (pv 0) (pa_cons pe_int pa_nil))) (fun _ _ => rfl)))
  (pss_cons (ps_set (i := 5) sc__law_root_case.nd rfl (Or.inl rfl) (pe_fn F__law_rising hr (by decide) rfl (takes_of rfl rfl rfl rfl) (pa_cons (pv 4) (pa_cons (pv 1) pa_nil))))
  (pss_one (ps_ret (pe_tup (pa_cons (pe_op op_add (pv 5) (pe_ix ix_seq (pe_lst (pa_cons (pe_un un_neg pe_int) (pa_cons pe_int (pa_cons pe_int (pa_cons (pe_fn F__law_take hr (by decide) rfl (takes_of rfl rfl rfl rfl) (pa_cons (pv 0) (pa_cons (pe_op op_add (pv 5) pe_int) pa_nil))) pa_nil))))) (pe_fn F__law_take hr (by decide) rfl (takes_of rfl rfl rfl rfl) (pa_cons (pv 0) (pa_cons pe_int pa_nil))) (fun _ _ => rfl))) (pa_cons (pv 1) pa_nil)))))))))))))), fun ws μ R X h => ?_⟩
  obtain ⟨st, s, rfl, rfl, hS, hR⟩ := h
  change RS _ _ [some _, none, none, none, none, none] _ _
  (try dsimp only [cxOf])
  wtm_at "go"
  refine take0 7 (by decide +kernel) hS fun c s1 hS1 c0 c1 _ => ?_
  wtm_at "go"
  refine take0 4 (by decide +kernel) hS1 fun kind s2 hS2 _ _ _ => ?_
  wtm_at "go"
  clear hS hS1
  refine rs_to (fun ε' μ' => ∃ (k : Nat) (s3 : List W), ε' = [some (.at st), some (.i (k : Int)), some (.i kind), none, none, none] ∧ μ' = [(st, .lst s3)] ∧ Sto s3 ∧ 1 ≤ k ∧ k ≤ 64) ?_ ?_
  · refine rs_ifv (by wtm_at "vt") (fun _ => ?_) (fun _ => ?_)
    · wtm_at "go"
      wtm_at "fl"
      refine take0 4 (by decide +kernel) hS2 fun r s3 hS3 r0 r1 _ => ?_
      obtain ⟨d, hd, k, rfl, hk⟩ := at_mem (P := fun d => ∃ k : Nat, d = D.int (k : Int) ∧ 1 ≤ k ∧ k ≤ 64) (ds := [.int 1, .int 2, .int 3, .int 63, .int 64]) r0 r1 (by
        intro z hz
        simp only [List.mem_cons, List.not_mem_nil, or_false] at hz
        rcases hz with h | h | h | h | h
        · exact ⟨1, h, by decide⟩
        · exact ⟨2, h, by decide⟩
        · exact ⟨3, h, by decide⟩
        · exact ⟨63, h, by decide⟩
        · exact ⟨64, h, by decide⟩)
      wtm_at "go"
      exact ⟨k, s3, rfl, rfl, hS3, hk⟩
    · wtm_at "go"
      exact ⟨(1 + c).toNat, s2, by rw [Int.toNat_of_nonneg (by omega)], rfl, hS2, by omega, by omega⟩
  clear hS2 c0 c1
  rintro ε' μ' ⟨k, s2, rfl, rfl, hS2, hk1, hk2⟩
  wtm_at "go"
  refine rs_to (fun ε' μ' => ∃ (k : Nat) (s3 : List W), ε' = [some (.at st), some (.i (k : Int)), some (.i kind), none, none, none] ∧ μ' = [(st, .lst s3)] ∧ Sto s3 ∧ 1 ≤ k ∧ k ≤ 64) ?_ ?_
  · refine rs_ifv (by wtm_at "vt") (fun _ => ?_) (fun _ => ?_)
    · wtm_at "go"
      refine take0 4 (by decide +kernel) hS2 fun r s3 hS3 r0 r1 _ => ?_
      wtm_at "go"
      exact ⟨(1 + r).toNat, s3, by rw [Int.toNat_of_nonneg (by omega)], rfl, hS3, by omega, by omega⟩
    · wtm_at "go"
      exact ⟨k, s2, rfl, rfl, hS2, hk1, hk2⟩
  clear hS2 hk1 hk2
  rintro ε' μ' ⟨k, s2, rfl, rfl, hS2, hk1, hk2⟩
  wtm_at "go"
  refine rs_to (fun ε' μ' => ∃ (m : Int) (nb : Nat), ε' = [some (.at st), some (.i (k : Int)), some (.i kind), some (.i m), none, none] ∧ μ' = [(st, .lst s2)] ∧ Bd nb m ∧ 2 ≤ m ∧ 14 ≤ nb ∧ nb * k ≤ 1000 ∧ nb ≤ 60) ?_ ?_
  · refine rs_ifv (by wtm_at "vt") (fun z => ?_) (fun z => ?_)
    · have z := of_decide_eq_true z
      wtm_at "go"
      exact ⟨_, 60, rfl, rfl, ⟨by decide +kernel⟩, by decide +kernel, by decide, by omega, by decide⟩
    · wtm_at "go"
      exact ⟨_, 14, rfl, rfl, ⟨by decide +kernel⟩, by decide +kernel, by decide, by omega, by decide⟩
  rintro ε' μ' ⟨m, nb, rfl, rfl, hm, hm2, hnb, hnk, hnb2⟩
  wtm_at "go"
  refine rs_to (fun ε' μ' => ∃ (m : Int) (nb : Nat), ε' = [some (.at st), some (.i (k : Int)), some (.i kind), some (.i m), none, none] ∧ μ' = [(st, .lst s2)] ∧ Bd nb m ∧ 2 ≤ m ∧ 14 ≤ nb ∧ nb * k ≤ 1000 ∧ nb ≤ 200) ?_ ?_
  · refine rs_ifv (by wtm_at "vt") (fun z => ?_) (fun z => ?_)
    · have z := of_decide_eq_true z
      wtm_at "go"
      exact ⟨_, 200, rfl, rfl, ⟨by decide +kernel⟩, by decide +kernel, by decide, by omega, by decide⟩
    · wtm_at "go"
      exact ⟨m, nb, rfl, rfl, hm, hm2, hnb, hnk, by omega⟩
  clear hm hm2 hnb hnk hnb2
  rintro ε' μ' ⟨m, nb, rfl, rfl, hm, hm2, hnb, hnk, hnb2⟩
  wtm_at "go"
  refine re_lst ?_
  wtm_at "go"
  refine take0 6 (by decide +kernel) hS2 fun r1 s3 hS3 _ _ hr1 => ?_
  wtm_at "go"
  refine takeF 0 rfl hS3 (hm.up (by omega)) fun r2 s4 hS4 r20 r21 => ?_
  wtm_at "go"
  refine dl_f rfl (by wtm_at "sz") ?_
  wtm_at "go"
  refine take0 2 (by decide +kernel) hS4 fun r s5 hS5 r0 r3 _ => ?_
  obtain ⟨d, hd, b, rfl, hb⟩ := at_mem (P := fun d => ∃ b, d = D.int b ∧ Bd nb b) (ds := [.int r1, .int r2]) r0 r3 (by
    intro z hz
    simp only [List.mem_cons, List.not_mem_nil, or_false] at hz
    rcases hz with h | h
    · exact ⟨_, h, hr1.up (by omega)⟩
    · exact ⟨_, h, hm.le (by omega)⟩)
  wtm_at "go"
  refine callF1 ⟨b, k, nb, rfl, hb, by omega, by omega, ?_⟩
  have hp : Bd 1001 (b ^ k) := (hb.pow k).up (by omega)
  have hp1 : Bd 1002 (b ^ k + 1) := hp.add1 ((Bd.om (i := 1) (by decide) (by decide)).up (by decide))
  clear hS2 hS3 hS4
  wtm_at "go"
  refine re_lst ?_
  wtm_at "go"
  refine takeF 0 rfl hS5 (hp1.up (by decide)) fun r4 s6 hS6 r40 r41 => ?_
  wtm_at "go"
  refine dl_f rfl (by wtm_at "sz") ?_
  wtm_at "go"
  refine take0 3 (by decide +kernel) hS6 fun r5 s7 hS7 r50 r51 _ => ?_
  obtain ⟨d, hd, x, rfl, hx⟩ := at_mem (P := fun d => ∃ x, d = D.int x ∧ Bd 1002 x) (ds := [.int (-1), .int 0, .int 1, .int r4]) r50 r51 (by
    intro z hz
    simp only [List.mem_cons, List.not_mem_nil, or_false] at hz
    rcases hz with h | h | h | h
    · exact ⟨_, h, (Bd.om (by decide) (by decide)).up (by decide)⟩
    · exact ⟨_, h, (Bd.om (by decide) (by decide)).up (by decide)⟩
    · exact ⟨_, h, (Bd.om (by decide) (by decide)).up (by decide)⟩
    · refine ⟨_, h, ?_⟩
      rcases r41 with q | q
      · exact hp1.le (by omega)
      · rw [q.2]; exact (Bd.om (by decide) (by decide)).up (by decide))
  wtm_at "go"
  exact hR _ _ s7 hS7 ((hp.up (m := 1002) (by decide)).add1 hx |>.up (by decide))
theorem caseF0 {E : En} {ε : Ep} {Ψ : W → Mu → Prop} {st : Addr} {s : List W} (hS : Sto s) (h : ∀ n c s', Sto s' → Bd 2000 n → Ψ (.dat (.tup [.int n, .int c])) [(st, .lst s')]) : CallF E fs__law_root_case [.at st] ε [(st, .lst s)] Ψ := ⟨0, st, s, rfl, rfl, hS, h⟩

/-! ceiling: the least int that is not below a / b -/
def fs_ceiling (K : PySem.W.Frag) : FS := fun ws μ R X => ∃ a b : Int, ws = [.i a, .i b] ∧ Bd 8000 b ∧ (b < 1 → X (.ref (He.ga K "OutOfRange")) [("name", .str "b")] μ) ∧ (1 ≤ b → R (.i (-(-a / b))) μ)
theorem fn_ceiling (B : Base P w K mg base) : Fn P w K mg base "ceiling" 3 ["a", "b"] (fs_ceiling K) := by
  refine fn_mk (st := s_ceiling) (gl_ceiling B) (df_ceiling B) sc_ceiling (fun ws μ R X h => (by first | exact h.1 | (obtain ⟨_, rfl, _⟩ := h; rfl) | (obtain ⟨_, _, rfl, _⟩ := h; rfl) | (obtain ⟨_, _, _, rfl, _⟩ := h; rfl) | (obtain ⟨_, _, _, _, rfl, _⟩ := h; rfl) | (obtain ⟨_, _, _, _, _, rfl, _⟩ := h; rfl) | (obtain ⟨_, _, _, _, _, _, rfl, _⟩ := h; rfl) | (obtain ⟨_, _, _, _, _, _, _, rfl, _⟩ := h; rfl) | (obtain ⟨_, _, _, _, _, _, _, _, rfl, _⟩ := h; rfl))) (fun _ _ _ _ _ _ us hl => match us, hl with | [_, _], _ => rfl) fun cdv A outer s H E hr => ⟨_, (pss_cons (ps_if (pt_cmpR op_lt (pv 1) pe_int (nomark _)) (pss_one (ps_raise1 (xc_OutOfRange B) rfl (takes_of rfl rfl rfl rfl) hr (by decide) rfl (pa_cons pe_str pa_nil))) pss_nil)
  (pss_one (ps_ret (pe_un un_neg (pe_op op_fdivW (pe_un un_neg (pv 0)) (pv 1)))))), fun ws μ R X h => ?_⟩
  obtain ⟨a, b, rfl, hb, hX, hR⟩ := h
  change RS _ _ [some _, some _] _ _
  (try dsimp only [cxOf])
  wtm_at "go"
  refine rs_ifv (by wtm_at "vt") ?_ ?_
  · intro z; (try simp only [decide_eq_true_eq, decide_eq_false_iff_not, Bool.not_eq_true', Bool.and_eq_true, Bool.or_eq_true, Bool.not_eq_false', Bool.and_eq_false_imp, Bool.or_eq_false_iff, Bool.not_true, Bool.not_false] at z)
    refine rs_raise1 (xc_OutOfRange B).ox (xc_OutOfRange B).no ?_
    wtm_at "go"
    exact ⟨_, rfl, hX z⟩
  intro z; (try simp only [decide_eq_true_eq, decide_eq_false_iff_not, Bool.not_eq_true', Bool.and_eq_true, Bool.or_eq_true, Bool.not_eq_false', Bool.and_eq_false_imp, Bool.or_eq_false_iff, Bool.not_true, Bool.not_false] at z)
  wtm_at "go"
  exact hR (by omega)
def g_kb_ceiling_b_a {α : Type} (us ws : List α) : List α := match us, ws with
  | [], [w0, w1] => [w1, w0]
  | _, _ => []
theorem gp_kb_ceiling_b_a {α β : Type} {R : α → β → Prop} {a c : List α} {b d : List β} (h : Paired R a b) (k : Paired R c d) : Paired R (g_kb_ceiling_b_a a c) (g_kb_ceiling_b_a b d) := by
  rcases h with _ | ⟨_, _⟩ <;> rcases k with _ | ⟨kw0, _ | ⟨kw1, _ | ⟨_, _⟩⟩⟩ <;> first | exact .nil | exact (.cons kw1 (.cons kw0 .nil))
theorem kb_ceiling_b_a (B : Base P w K mg base) : FnK P w K mg base "ceiling" 3 ["a", "b"] ["b", "a"] g_kb_ceiling_b_a g_kb_ceiling_b_a (fs_ceiling K) := by
  refine fnk_mk (fn_ceiling B) (gl_ceiling B) (df_ceiling B) (fun h k => gp_kb_ceiling_b_a h k) fun kV doc pm an cdv ct us ws hl => ?_
  rcases us with _ | ⟨_, _⟩ <;> rcases ws with _ | ⟨w0, _ | ⟨w1, _ | ⟨_, _⟩⟩⟩ <;> first | rfl | exact absurd (show (0 : Nat) = 2 from hl) (by decide)

/-! raised: a power -/
def fs_raised (K : PySem.W.Frag) : FS := fun ws μ R X => ∃ (b e : Int) (m : Nat), ws = [.i b, .i e] ∧ Bd m b ∧ (e < 0 ∨ e > 1000 → X (.ref (He.ga K "OutOfRange")) [("name", .str "e")] μ) ∧ (0 ≤ e → e ≤ 1000 → m * e.toNat ≤ 400000 ∧ R (.i (b ^ e.toNat)) μ)
theorem fn_raised (B : Base P w K mg base) : Fn P w K mg base "raised" 3 ["b", "e"] (fs_raised K) := by
  refine fn_mk (st := s_raised) (gl_raised B) (df_raised B) sc_raised (fun ws μ R X h => (by first | exact h.1 | (obtain ⟨_, rfl, _⟩ := h; rfl) | (obtain ⟨_, _, rfl, _⟩ := h; rfl) | (obtain ⟨_, _, _, rfl, _⟩ := h; rfl) | (obtain ⟨_, _, _, _, rfl, _⟩ := h; rfl) | (obtain ⟨_, _, _, _, _, rfl, _⟩ := h; rfl) | (obtain ⟨_, _, _, _, _, _, rfl, _⟩ := h; rfl) | (obtain ⟨_, _, _, _, _, _, _, rfl, _⟩ := h; rfl) | (obtain ⟨_, _, _, _, _, _, _, _, rfl, _⟩ := h; rfl))) (fun _ _ _ _ _ _ us hl => match us, hl with | [_, _], _ => rfl) fun cdv A outer s H E hr => ⟨_, (pss_cons (ps_if (PW.pt (pw_or (pt_cmpR op_lt (pv 1) pe_int (nomark _)) (pw_or1 (pt_cmpR op_gt (pv 1) (pe_gi (ct_GREATEST_EXPONENT B)) (nomark _))))) (pss_one (ps_raise1 (xc_OutOfRange B) rfl (takes_of rfl rfl rfl rfl) hr (by decide) rfl (pa_cons pe_str pa_nil))) pss_nil)
  (pss_cons (ps_set (i := 2) sc_raised.nd rfl (Or.inl rfl) pe_int)
  (pss_cons (ps_set (i := 3) sc_raised.nd rfl (Or.inl rfl) (pv 0))
  (pss_cons (ps_set (i := 4) sc_raised.nd rfl (Or.inl rfl) (pv 1))
  (pss_cons (ps_while (passes_of rfl) (pt_cmpR op_gt (pv 4) pe_int (nomark _)) (pss_cons (ps_if (pt_cmpR op_eq (pe_op op_mod (pv 4) pe_int) pe_int (nomark _)) (pss_one (ps_set (i := 2) sc_raised.nd rfl (Or.inl rfl) (pe_op op_mulW (pv 2) (pv 3)))) pss_nil)
  (pss_cons (ps_set (i := 4) sc_raised.nd rfl (Or.inl rfl) (pe_op op_fdiv (pv 4) pe_int))
  (pss_one (ps_if (pt_cmpR op_gt (pv 4) pe_int (nomark _)) (pss_one (ps_set (i := 3) sc_raised.nd rfl (Or.inl rfl) (pe_op op_mulW (pv 3) (pv 3)))) pss_nil)))))
  (pss_one (ps_ret (pv 2)))))))), fun ws μ R X h => ?_⟩
  obtain ⟨b, e, m, rfl, hb, hX, hR⟩ := h
  change RS _ _ [some _, some _, none, none, none] _ _
  (try dsimp only [cxOf])
  wtm_at "go"
  refine rs_ifv (by wtm_at "vt") ?_ ?_
  · intro z; (try simp only [decide_eq_true_eq, decide_eq_false_iff_not, Bool.not_eq_true', Bool.and_eq_true, Bool.or_eq_true, Bool.not_eq_false', Bool.and_eq_false_imp, Bool.or_eq_false_iff, Bool.not_true, Bool.not_false] at z)
    refine rs_raise1 (xc_OutOfRange B).ox (xc_OutOfRange B).no ?_
    wtm_at "go"
    exact ⟨_, rfl, hX z⟩
  intro z; (try simp only [decide_eq_true_eq, decide_eq_false_iff_not, Bool.not_eq_true', Bool.and_eq_true, Bool.or_eq_true, Bool.not_eq_false', Bool.and_eq_false_imp, Bool.or_eq_false_iff, Bool.not_true, Bool.not_false] at z)
  obtain ⟨hme, hR⟩ := hR (by omega) (by omega)
  obtain ⟨n, rfl⟩ := Int.eq_ofNat_of_zero_le (show 0 ≤ e by omega)
  rw [Int.toNat_natCast] at hme hR
  have hpw : ∀ i, i ≤ n → Bd 400001 (b ^ i) := fun i hi => (hb.pow i).up (by have := Nat.mul_le_mul_left m hi; omega)
  wtm_at "go"
  refine rs_to (fun ε' μ' => ∃ o l, ε' = [some (.i b), some (.i (n : Int)), some (.i (b ^ n)), o, l] ∧ μ' = μ) ?_ ?_
  · refine rs_while (fun mm ε' μ' => ∃ (i j l : Nat) (sq : Int), ε' = [some (.i b), some (.i (n : Int)), some (.i (b ^ i)), some (.i sq), some (.i (l : Int))] ∧ μ' = μ ∧ l = mm ∧ i + j * l = n ∧ 1 ≤ j ∧ (0 < l → sq = b ^ j)) n ⟨0, 1, n, b, by simp, rfl, rfl, by omega, by omega, fun _ => (Int.pow_one b).symm⟩ ?_
    rintro mm ε' μ' ⟨i, j, l, sq, rfl, rfl, rfl, hE, hj, hsq⟩
    refine ⟨_, by wtm_at "vt", fun z => ?_, fun z => ?_⟩
    · have hl : 0 < l := by simpa using z
      have e1 := hsq hl
      subst e1
      have hjl : j * 1 ≤ j * l := Nat.mul_le_mul_left j hl
      have hbi := hpw i (by omega)
      have hbj := hpw j (by omega)
      wtm_at "go"
      refine rs_to (fun ε'' μ'' => ∃ i' : Nat, ε'' = [some (.i b), some (.i (n : Int)), some (.i (b ^ i')), some (.i (b ^ j)), some (.i (l : Int))] ∧ μ'' = μ' ∧ i' + j * (2 * (l / 2)) = n) ?_ ?_
      · refine rs_ifv (by wtm_at "vt") (fun q => ?_) (fun q => ?_)
        · have q1 : l % 2 = 1 := by have := of_decide_eq_true q; omega
          have hc : CMulW (b ^ i) (b ^ j) := cmulw hbi hbj (by omega)
          wtm_at "go"
          refine ⟨i + j, by rw [Int.pow_add], rfl, ?_⟩
          have e2 : l = 2 * (l / 2) + 1 := by omega
          have e3 : j * l = j * (2 * (l / 2)) + j := by rw [← Nat.mul_succ, Nat.succ_eq_add_one, ← e2]
          omega
        · have q1 : l % 2 = 0 := by have := of_decide_eq_false q; omega
          wtm_at "go"
          refine ⟨i, rfl, rfl, ?_⟩
          have e2 : l = 2 * (l / 2) := by omega
          rw [← e2]; exact hE
      rintro _ _ ⟨i', rfl, rfl, hE'⟩
      have e4 : j * (2 * (l / 2)) = (j + j) * (l / 2) := by grind
      wtm_at "go"
      refine rs_ifv (by wtm_at "vt") (fun q => ?_) (fun q => ?_)
      · have hc : CMulW (b ^ j) (b ^ j) := cmulw hbj hbj (by omega)
        wtm_at "go"
        exact ⟨l / 2, by omega, i', j + j, l / 2, _, rfl, rfl, rfl, by omega, by omega, fun _ => by rw [Int.pow_add]⟩
      · have q1 : l / 2 = 0 := by have := of_decide_eq_false q; omega
        wtm_at "go"
        exact ⟨l / 2, by omega, i', j + j, l / 2, _, rfl, rfl, rfl, by omega, by omega, fun z => by omega⟩
    · have hl : l = 0 := by simpa using z
      subst hl
      have : i = n := by omega
      subst this
      exact ⟨_, _, rfl, rfl⟩
  rintro ε' μ' ⟨o, l, rfl, rfl⟩
  wtm_at "go"
  exact hR

/-! root_guess: one step to the root -/
def fs_root_guess : FS := fun ws μ R X => ∃ (n g : Int) (e m : Nat), ws = [.i n, .i (e : Int), .i g] ∧ 1 ≤ e ∧ e ≤ 64 ∧ 1 ≤ g ∧ Bd m g ∧ m < 400000 ∧ m * (e - 1) ≤ 8900 ∧ R (.i (rootN n e g)) μ
theorem fn_root_guess (B : Base P w K mg base) : Fn P w K mg base "root_guess" 4 ["n", "e", "guess"] fs_root_guess := by
  have F_raised := fn_raised B
  refine fn_mk (st := s_root_guess) (gl_root_guess B) (df_root_guess B) sc_root_guess (fun ws μ R X h => (by first | exact h.1 | (obtain ⟨_, rfl, _⟩ := h; rfl) | (obtain ⟨_, _, rfl, _⟩ := h; rfl) | (obtain ⟨_, _, _, rfl, _⟩ := h; rfl) | (obtain ⟨_, _, _, _, rfl, _⟩ := h; rfl) | (obtain ⟨_, _, _, _, _, rfl, _⟩ := h; rfl) | (obtain ⟨_, _, _, _, _, _, rfl, _⟩ := h; rfl) | (obtain ⟨_, _, _, _, _, _, _, rfl, _⟩ := h; rfl) | (obtain ⟨_, _, _, _, _, _, _, _, rfl, _⟩ := h; rfl))) (fun _ _ _ _ _ _ us hl => match us, hl with | [_, _, _], _ => rfl) fun cdv A outer s H E hr => ⟨_, (pss_one (ps_ret (pe_op op_fdivW (pe_op op_add (pe_op op_mulW (pe_op op_sub (pv 1) pe_int) (pv 2)) (pe_op op_fdivW (pv 0) (pe_fn F_raised hr (by decide) rfl (takes_of rfl rfl rfl rfl) (pa_cons (pv 2) (pa_cons (pe_op op_sub (pv 1) pe_int) pa_nil))))) (pv 1)))), fun ws μ R X h => ?_⟩
  obtain ⟨n, g, e, m, rfl, he1, he2, hg, hm, hm4, hme, hR⟩ := h
  change RS _ _ [some _, some _, some _] _ _
  (try dsimp only [cxOf])
  have h1 : Bd 64 ((e : Int) - 1) := Bd.om (by omega) (by omega)
  have hc : CMulW ((e : Int) - 1) g := cmulw h1 hm (by omega)
  have e1 : ((e : Int) - 1).toNat = e - 1 := by omega
  wtm_at "go"
  refine callF1 ⟨g, (e : Int) - 1, m, rfl, hm, fun z => by omega, fun _ _ => ⟨by rw [e1]; omega, ?_⟩⟩
  rw [e1]
  have hd : CDivW n (g ^ (e - 1)) := cdivw (Int.pow_pos (by omega)) (hm.pow (e - 1)) (by omega)
  have hd2 : CDivW (((e : Int) - 1) * g + n / g ^ (e - 1)) (e : Int) := cdivw (by omega) (Bd.om (i := (e : Int)) (by omega) (by omega)) (by omega)
  wtm_at "go"
  exact hR

/-! floor_root: the greatest int whose power is not above n -/
def fs_floor_root (K : PySem.W.Frag) : FS := fun ws μ R X => ∃ n e : Int, ws = [.i n, .i e] ∧ Bd 8000 n ∧ (n < 0 → X (.ref (He.ga K "OutOfRange")) [("name", .str "n")] μ) ∧ (0 ≤ n → e < 1 ∨ e > 64 → X (.ref (He.ga K "OutOfRange")) [("name", .str "e")] μ) ∧
  (0 ≤ n → 1 ≤ e → e ≤ 64 → ∀ r : Int, 0 ≤ r → r ^ e.toNat ≤ n → n < (r + 1) ^ e.toNat → R (.i r) μ)
theorem two_pow_gt {e : Nat} (he : 1 ≤ e) : (1 : Int) < (1 + 1) ^ e := by
  have := pow_self_le (r := 1 + 1) he (by decide)
  omega
theorem fn_floor_root (B : Base P w K mg base) : Fn P w K mg base "floor_root" 5 ["n", "e"] (fs_floor_root K) := by
  have F_root_guess := fn_root_guess B
  refine fn_mk (st := s_floor_root) (gl_floor_root B) (df_floor_root B) sc_floor_root (fun ws μ R X h => (by first | exact h.1 | (obtain ⟨_, rfl, _⟩ := h; rfl) | (obtain ⟨_, _, rfl, _⟩ := h; rfl) | (obtain ⟨_, _, _, rfl, _⟩ := h; rfl) | (obtain ⟨_, _, _, _, rfl, _⟩ := h; rfl) | (obtain ⟨_, _, _, _, _, rfl, _⟩ := h; rfl) | (obtain ⟨_, _, _, _, _, _, rfl, _⟩ := h; rfl) | (obtain ⟨_, _, _, _, _, _, _, rfl, _⟩ := h; rfl) | (obtain ⟨_, _, _, _, _, _, _, _, rfl, _⟩ := h; rfl))) (fun _ _ _ _ _ _ us hl => match us, hl with | [_, _], _ => rfl) fun cdv A outer s H E hr => ⟨_, (pss_cons (ps_if (pt_cmpR op_lt (pv 0) pe_int (nomark _)) (pss_one (ps_raise1 (xc_OutOfRange B) rfl (takes_of rfl rfl rfl rfl) hr (by decide) rfl (pa_cons pe_str pa_nil))) pss_nil)
  (pss_cons (ps_if (PW.pt (pw_or (pt_cmpR op_lt (pv 1) pe_int (nomark _)) (pw_or1 (pt_cmpR op_gt (pv 1) (pe_gi (ct_GREATEST_ROOT B)) (nomark _))))) (pss_one (ps_raise1 (xc_OutOfRange B) rfl (takes_of rfl rfl rfl rfl) hr (by decide) rfl (pa_cons pe_str pa_nil))) pss_nil)
  (pss_cons (ps_if (PW.pt (pw_or (pt_cmpR op_lt (pv 0) pe_int (nomark _)) (pw_or1 (pt_cmpR op_eq (pv 1) pe_int (nomark _))))) (pss_one (ps_ret (pv 0))) pss_nil)
  (pss_cons (ps_set (i := 2) sc_floor_root.nd rfl (Or.inl rfl) (pe_op op_shlW pe_int (pe_op op_fdivW (pe_op op_sub (pe_op op_add (pe_bits (pv 0)) (pv 1)) pe_int) (pv 1))))
  (pss_cons (ps_set (i := 3) sc_floor_root.nd rfl (Or.inl rfl) (pe_fn F_root_guess hr (by decide) rfl (takes_of rfl rfl rfl rfl) (pa_cons (pv 0) (pa_cons (pv 1) (pa_cons (pv 2) pa_nil)))))
  (pss_cons (ps_while (passes_of rfl) (pt_cmpR op_lt (pv 3) (pv 2) (nomark _)) (pss_cons (ps_set (i := 2) sc_floor_root.nd rfl (Or.inl rfl) (pv 3))
  (pss_one (ps_set (i := 3) sc_floor_root.nd rfl (Or.inl rfl) (pe_fn F_root_guess hr (by decide) rfl (takes_of rfl rfl rfl rfl) (pa_cons (pv 0) (pa_cons (pv 1) (pa_cons (pv 2) pa_nil))))))))
  (pss_one (ps_ret (pv 2))))))))), fun ws μ R X h => ?_⟩
  obtain ⟨n, e, rfl, hn, hX1, hX2, hR⟩ := h
  change RS _ _ [some _, some _, none, none] _ _
  (try dsimp only [cxOf])
  wtm_at "go"
  refine rs_ifv (by wtm_at "vt") ?_ ?_
  · intro z; (try simp only [decide_eq_true_eq, decide_eq_false_iff_not, Bool.not_eq_true', Bool.and_eq_true, Bool.or_eq_true, Bool.not_eq_false', Bool.and_eq_false_imp, Bool.or_eq_false_iff, Bool.not_true, Bool.not_false] at z)
    refine rs_raise1 (xc_OutOfRange B).ox (xc_OutOfRange B).no ?_
    wtm_at "go"
    exact ⟨_, rfl, hX1 z⟩
  intro z; (try simp only [decide_eq_true_eq, decide_eq_false_iff_not, Bool.not_eq_true', Bool.and_eq_true, Bool.or_eq_true, Bool.not_eq_false', Bool.and_eq_false_imp, Bool.or_eq_false_iff, Bool.not_true, Bool.not_false] at z)
  wtm_at "go"
  refine rs_ifv (by wtm_at "vt") ?_ ?_
  · intro z2; (try simp only [decide_eq_true_eq, decide_eq_false_iff_not, Bool.not_eq_true', Bool.and_eq_true, Bool.or_eq_true, Bool.not_eq_false', Bool.and_eq_false_imp, Bool.or_eq_false_iff, Bool.not_true, Bool.not_false] at z2)
    refine rs_raise1 (xc_OutOfRange B).ox (xc_OutOfRange B).no ?_
    wtm_at "go"
    exact ⟨_, rfl, hX2 (by omega) z2⟩
  intro z2; (try simp only [decide_eq_true_eq, decide_eq_false_iff_not, Bool.not_eq_true', Bool.and_eq_true, Bool.or_eq_true, Bool.not_eq_false', Bool.and_eq_false_imp, Bool.or_eq_false_iff, Bool.not_true, Bool.not_false] at z2)
  obtain ⟨k, rfl⟩ := Int.eq_ofNat_of_zero_le (show 0 ≤ e by omega)
  rw [Int.toNat_natCast] at hR
  have hR := hR (by omega) (by omega) (by omega)
  have hk1 : 1 ≤ k := by omega
  have hk2 : k ≤ 64 := by omega
  wtm_at "go"
  refine rs_ifv (by wtm_at "vt") ?_ ?_
  · intro z3; (try simp only [decide_eq_true_eq, decide_eq_false_iff_not, Bool.not_eq_true', Bool.and_eq_true, Bool.or_eq_true, Bool.not_eq_false', Bool.and_eq_false_imp, Bool.or_eq_false_iff, Bool.not_true, Bool.not_false] at z3)
    wtm_at "go"
    rcases (by omega : n = 0 ∨ n = 1 ∨ k = 1) with rfl | rfl | rfl
    · exact hR 0 (by decide) (by rw [Int.zero_pow (by omega)]; exact Int.le_refl 0) (by rw [show (0 : Int) + 1 = 1 from rfl, Int.one_pow]; decide)
    · exact hR 1 (by decide) (by rw [Int.one_pow]; exact Int.le_refl 1) (two_pow_gt hk1)
    · exact hR n (by omega) (by rw [Int.pow_one]; exact Int.le_refl n) (by rw [Int.pow_one]; omega)
  intro z3; (try simp only [decide_eq_true_eq, decide_eq_false_iff_not, Bool.not_eq_true', Bool.and_eq_true, Bool.or_eq_true, Bool.not_eq_false', Bool.and_eq_false_imp, Bool.or_eq_false_iff, Bool.not_true, Bool.not_false] at z3)
  have hn2 : 2 ≤ n := by omega
  clear z z2 z3 hX1 hX2
  have hb1 := bits_lt (show n ≠ 0 by omega)
  have hb2 := bits_le hn
  obtain ⟨b, eb⟩ : ∃ b, b = Builtin.Int.intBits n := ⟨_, rfl⟩
  rw [← eb] at hb1 hb2
  obtain ⟨q, eq⟩ : ∃ q, q = (b + k - 1) / k := ⟨_, rfl⟩
  have hq1 : q * k ≤ b + k - 1 := by rw [eq]; exact Nat.div_mul_le_self ..
  have hq2 : q ≤ 8064 := by
    have : q * 1 ≤ q * k := Nat.mul_le_mul_left q hk1
    omega
  have hq3 : ((b : Int) + (k : Int) - 1) / (k : Int) = (q : Int) := by
    have e1 : (b : Int) + (k : Int) - 1 = ((b + k - 1 : Nat) : Int) := by omega
    rw [e1, eq]
    rfl
  have hq4 : (q + 2) * (k - 1) ≤ 8900 := by
    have : (q + 2) * (k - 1) ≤ (q + 2) * k := Nat.mul_le_mul_left _ (by omega)
    have e2 : (q + 2) * k = q * k + 2 * k := by rw [Nat.add_mul]
    omega
  have hfr := first_root hk1 hb1
  rw [← eq] at hfr
  have hbd : ∀ g : Int, 1 ≤ g → g ≤ 2 ^ q → Bd (q + 2) g := fun g g1 g2 => ⟨by
    have e3 : ((2 ^ q : Nat) : Int) = 2 ^ q := by rw [Int.natCast_pow]; rfl
    have e4 : 2 ^ (q + 2) = 2 ^ q * 2 * 2 := by rw [Nat.pow_succ, Nat.pow_succ]
    have : 0 < 2 ^ q := Nat.pow_pos (by decide)
    omega⟩
  have hd : CDivW ((b : Int) + (k : Int) - 1) (k : Int) := cdivw (by omega) (Bd.om (i := (k : Int)) (by omega) (by omega)) (by omega)
  have hs : CShl 1 (((b : Int) + (k : Int) - 1) / (k : Int)) := by
    rw [hq3]
    exact cshl (Bd.om (i := 1) (by decide) (by decide)) (by omega) (by omega)
  rw [eb] at hd hs
  wtm_at "go"
  rw [← eb, hq3, Int.toNat_natCast, Int.one_mul]
  have h2q : (1 : Int) ≤ 2 ^ q := by have := Int.pow_pos (n := 2) (m := q) (by decide); omega
  refine callF1 ⟨n, 2 ^ q, k, q + 2, rfl, hk1, hk2, h2q, hbd _ h2q (Int.le_refl _), by omega, hq4, ?_⟩
  wtm_at "go"
  refine rs_to (fun ε' μ' => ∃ r o, ε' = [some (.i n), some (.i (k : Int)), some (.i r), o] ∧ μ' = μ ∧ 0 ≤ r ∧ r ^ k ≤ n ∧ n < (r + 1) ^ k) ?_ ?_
  · refine rs_while (fun mm ε' μ' => ∃ r : Int, ε' = [some (.i n), some (.i (k : Int)), some (.i r), some (.i (rootN n k r))] ∧ μ' = μ ∧ r.toNat = mm ∧ 1 ≤ r ∧ r ≤ 2 ^ q ∧ n < (r + 1) ^ k) ((2 : Int) ^ q).toNat ⟨_, rfl, rfl, rfl, h2q, Int.le_refl _, hfr⟩ ?_
    rintro mm ε' μ' ⟨r, rfl, rfl, rfl, r1, r2, r3⟩
    refine ⟨_, by wtm_at "vt", fun z => ?_, fun z => ?_⟩
    · have z := of_decide_eq_true z
      have ha := root_above (n := n) (g := r) hk1 r1 (by omega)
      have hp : -1 ≤ rootN n k r := by
        have : 0 ≤ rootN n k r := by
          unfold rootN
          have h1 : 0 ≤ ((k : Int) - 1) * r := Int.mul_nonneg (by omega) (by omega)
          have h2 : 0 ≤ n / r ^ (k - 1) := Int.ediv_nonneg (by omega) (Int.pow_nonneg (by omega))
          exact Int.ediv_nonneg (by omega) (by omega)
        omega
      have hr := root_pos hk1 (by omega) ha hp
      wtm_at "go"
      refine callF1 ⟨n, rootN n k r, k, q + 2, rfl, hk1, hk2, hr, hbd _ hr (by omega), by omega, hq4, ?_⟩
      wtm_at "go"
      exact ⟨_, by omega, _, rfl, rfl, rfl, hr, by omega, ha⟩
    · have z := of_decide_eq_false z
      exact ⟨r, _, rfl, rfl, by omega, root_stop hk1 r1 (by omega), r3⟩
  rintro ε' μ' ⟨r, o, rfl, rfl, h1, h2, h3⟩
  wtm_at "go"
  exact hR r h1 h2 h3

/-! _law_call: what is told, a refusal as data -/
def fs__law_call : FS := fun ws μ R _ => ws.length = 3 ∧ ∃ one two : Int,
  (ws = [.s "root", .i one, .i two] ∧ Bd 8000 one ∧ (one < 0 → R (.dat (refD "n")) μ) ∧ (0 ≤ one → two < 1 ∨ two > 64 → R (.dat (refD "e")) μ) ∧
    (0 ≤ one → 1 ≤ two → two ≤ 64 → ∀ r : Int, 0 ≤ r → r ^ two.toNat ≤ one → one < (r + 1) ^ two.toNat → R (.dat (.tup [.str "told", .int r])) μ)) ∨
  (∃ m : Nat, ws = [.s "raised", .i one, .i two] ∧ Bd m one ∧ (two < 0 ∨ two > 1000 → R (.dat (refD "e")) μ) ∧ (0 ≤ two → two ≤ 1000 → m * two.toNat ≤ 400000 ∧ R (.dat (.tup [.str "told", .int (one ^ two.toNat)])) μ)) ∨
  (∃ word : Str, (word = "named" ∨ word = "by place") ∧ ws = [.s word, .i one, .i two] ∧ Bd 8000 two ∧ (two < 1 → R (.dat (refD "b")) μ) ∧ (1 ≤ two → R (.dat (.tup [.str "told", .int (-(-one / two))])) μ))
theorem fn__law_call (B : Base P w K mg base) : Fn P w K mg base "_law_call" 6 ["word", "one", "two"] fs__law_call := by
  have F_ceiling := fn_ceiling B
  have F_floor_root := fn_floor_root B
  have F_raised := fn_raised B
  have F_kb_ceiling_b_a := kb_ceiling_b_a B
  refine fn_mk (st := s__law_call) (gl__law_call B) (df__law_call B) sc__law_call (fun ws μ R X h => (by first | exact h.1 | (obtain ⟨_, rfl, _⟩ := h; rfl) | (obtain ⟨_, _, rfl, _⟩ := h; rfl) | (obtain ⟨_, _, _, rfl, _⟩ := h; rfl) | (obtain ⟨_, _, _, _, rfl, _⟩ := h; rfl) | (obtain ⟨_, _, _, _, _, rfl, _⟩ := h; rfl) | (obtain ⟨_, _, _, _, _, _, rfl, _⟩ := h; rfl) | (obtain ⟨_, _, _, _, _, _, _, rfl, _⟩ := h; rfl) | (obtain ⟨_, _, _, _, _, _, _, _, rfl, _⟩ := h; rfl))) (fun _ _ _ _ _ _ us hl => match us, hl with | [_, _, _], _ => rfl) fun cdv A outer s H E hr => ⟨_, (pss_one (ps_tryD rfl rfl sc__law_call.nd (takes_of rfl rfl rfl rfl) (fun W pn xe tk pp => (pss_cons (ps_if (pt_cmpR op_eq (pv 0) pe_str (nomark _)) (pss_one (ps_ret (pe_tup (pa_cons pe_str (pa_cons (pe_fn F_floor_root hr (by decide) rfl tk (pa_cons (pv 1) (pa_cons (pv 2) pa_nil))) pa_nil))))) pss_nil)
  (pss_cons (ps_if (pt_cmpR op_eq (pv 0) pe_str (nomark _)) (pss_one (ps_ret (pe_tup (pa_cons pe_str (pa_cons (pe_fn F_raised hr (by decide) rfl tk (pa_cons (pv 1) (pa_cons (pv 2) pa_nil))) pa_nil))))) pss_nil)
  (pss_cons (ps_if (pt_cmpR op_eq (pv 0) pe_str (nomark _)) (pss_one (ps_ret (pe_tup (pa_cons pe_str (pa_cons (pe_fnK0 F_kb_ceiling_b_a hr (by decide) rfl tk (pk_cons (pv 2) (pk_cons (pv 1) pk_nil))) pa_nil))))) pss_nil)
  (pss_one (ps_ret (pe_tup (pa_cons pe_str (pa_cons (pe_fn F_ceiling hr (by decide) rfl tk (pa_cons (pv 1) (pa_cons (pv 2) pa_nil))) pa_nil))))))))) (cl_named (i := 3) ⟨rfl, by decide, Or.inl (gl_OutOfRange B)⟩ rfl rfl (fun a oe cls d pn hz hf => (pss_cons (ps_set (i := 4) sc__law_call.nd rfl (Or.inl rfl) (pe_lst (pa_cons (pe_callB (call_isX hz hf) (by rfl) (fr_isinstance B) (by decide +kernel) (pa_cons (pv 3) (pa_cons (pe_glob (v := .ref (He.ga K "TooDeep")) rfl (gl_TooDeep B) rfl) pa_nil))) (pa_cons (pe_callB (call_isX hz hf) (by rfl) (fr_isinstance B) (by decide +kernel) (pa_cons (pv 3) (pa_cons (pe_glob (v := .ref (He.ga K "LargeCoefficient")) rfl (gl_LargeCoefficient B) rfl) pa_nil))) pa_nil))))
  (pss_one (ps_ret (pe_tup (pa_cons pe_str (pa_cons (pe_fx hz hf (pv 3)) (pa_cons (pe_callB (call_isX hz hf) (by rfl) (fr_isinstance B) (by decide +kernel) (pa_cons (pv 3) (pa_cons (pe_glob (v := .ref (He.ga K "TooGreatError")) rfl (gl_TooGreatError B) rfl) pa_nil))) (pa_cons (pe_callB (call_isX hz hf) (by rfl) (fr_isinstance B) (by decide +kernel) (pa_cons (pv 3) (pa_cons (pe_bltn (v := .ty "ValueError") rfl (fr_ValueError B) (by decide +kernel) rfl) pa_nil))) (pa_cons (pe_cmpR op_in_seq pe_bl (pv 4) (by rfl)) pa_nil)))))))))) (cl_plain ⟨rfl, by decide, Or.inl (gl_TooGreatError B)⟩ (fun a oe cls d pn hz hf => (pss_one (ps_ret (pe_tup (pa_cons pe_str pa_nil))))) .nil (by intro _ _ _ _ _; (try dsimp only [Cx.suite, Cx.tr, cxOf]) <;> exact rfl)) (by intro _ _ _ _ _; (try dsimp only [Cx.suite, Cx.tr, cxOf]) <;> exact rfl)) (by intro _ _ _; (try dsimp only [Cx.suite, Cx.tr, cxOf]) <;> exact rfl))), fun ws μ R X h => ?_⟩
  obtain ⟨hl3, one, two, hc⟩ := h
  have hw : ∃ word, ws = [.s word, .i one, .i two] := by
    rcases hc with ⟨h, _⟩ | ⟨m, h, _⟩ | ⟨_, _, h, _⟩
    · exact ⟨_, h⟩
    · exact ⟨_, h⟩
    · exact ⟨_, h⟩
  obtain ⟨word, rfl⟩ := hw
  change RS _ _ [some _, some _, some _, none, none] _ _
  (try dsimp only [cxOf])
  refine rs_tryD (fun ε' cls fs μ' => ε' = [some (.s word), some (.i one), some (.i two), none, none] ∧ cls = .ref (He.ga K "OutOfRange") ∧ μ' = μ ∧ ∃ nm, fs = [(("name" : Str), D.str nm)] ∧ R (.dat (refD nm)) μ) (fun W' => ?_) ?_
  · rcases hc with ⟨e, h1, h2, h3, h4⟩ | ⟨m, e, h1, h2, h3⟩ | ⟨w2, hw, e, h1, h2, h3⟩
    · cases e
      wtm_at "go"
      wtm_at "ifT"
      wtm_at "go"
      refine callF1 ⟨one, two, rfl, h1, fun z => ⟨rfl, rfl, rfl, _, rfl, h2 z⟩, fun z z2 => ⟨rfl, rfl, rfl, _, rfl, h3 z z2⟩, fun z1 z2 z3 r r0 r1 r2 => ?_⟩
      wtm_at "go"
      exact h4 z1 z2 z3 r r0 r1 r2
    · cases e
      wtm_at "go"
      wtm_at "ifF"
      wtm_at "go"
      wtm_at "ifT"
      wtm_at "go"
      refine callF1 ⟨one, two, m, rfl, h1, fun z => ⟨rfl, rfl, rfl, _, rfl, h2 z⟩, fun z1 z2 => ⟨(h3 z1 z2).1, ?_⟩⟩
      wtm_at "go"
      exact (h3 z1 z2).2
    · cases e
      rcases hw with rfl | rfl
      · wtm_at "go"
        wtm_at "ifF"
        wtm_at "go"
        wtm_at "ifF"
        wtm_at "go"
        wtm_at "ifT"
        wtm_at "go"
        refine re_fnK (fun _ _ _ _ _ _ h k => gp_kb_ceiling_b_a h k) ?_
        wtm_at "go"
        refine callF1 ⟨one, two, rfl, h1, fun z => ⟨rfl, rfl, rfl, _, rfl, h2 z⟩, fun z1 => ?_⟩
        wtm_at "go"
        exact h3 z1
      · wtm_at "go"
        wtm_at "ifF"
        wtm_at "go"
        wtm_at "ifF"
        wtm_at "go"
        wtm_at "ifF"
        wtm_at "go"
        refine callF1 ⟨one, two, rfl, h1, fun z => ⟨rfl, rfl, rfl, _, rfl, h2 z⟩, fun z1 => ?_⟩
        wtm_at "go"
        exact h3 z1
  · rintro ε' cls fs μ' ⟨rfl, rfl, rfl, nm, rfl, hR⟩
    refine ⟨true, xm_OutOfRange_OutOfRange B, fun _ a d => ?_, fun z => by cases z⟩
    change RS _ _ [_, _, _, some _, _] _ _
    wtm_at "go"
    refine re_lst (ra_v (va_cons (ve_cb (by wtm_at "va") (vc_isX (xk_OutOfRange B) (xi_OutOfRange_TooDeep B))) (va_cons (ve_cb (by wtm_at "va") (vc_isX (xk_OutOfRange B) (xi_OutOfRange_LargeCoefficient B))) va_nil)) (dl_f rfl (by wtm_at "sz") ?_))
    wtm_at "go"
    refine re_v (ve_fx (xk_OutOfRange B) (xc_OutOfRange B).no (ve_var rfl) rfl) ?_
    wtm_at "go"
    refine rc_v (vc_isX (xk_OutOfRange B) (xi_OutOfRange_TooGreatError B)) ?_
    wtm_at "go"
    refine rc_v (vc_isXt (xk_OutOfRange B) (xv_OutOfRange B)) ?_
    wtm_at "go"
    refine ro_v (vo_in (c := false) rfl rfl rfl rfl) ?_
    wtm_at "go"
    exact hR

/-! _law_same: whether two data are equal, in kind too -/
def fs__law_same : FS := fun ws μ R _ => ∃ a b : D, ws = [.dat a, .dat b] ∧ a.ok = true ∧ b.ok = true ∧ b.sz ≤ 1000000 ∧ ∀ r : Bool, (r = true ↔ a = b) → R (.b r) μ
theorem len_szL : ∀ ys : List D, ys.length ≤ D.szL ys
  | [] => Nat.le_refl 0
  | y :: ys => by rw [List.length_cons, D.szL]; have := len_szL ys; have := D.sz_pos y; omega
def stk (q : List (D × D)) : HC := .lst (q.reverse.map pw)
theorem stk_pop (p : D × D) (r : List (D × D)) : ((p :: r).reverse.map pw)[((p :: r).reverse.map pw).length - 1]? = some (pw p) ∧ ((p :: r).reverse.map pw).dropLast = r.reverse.map pw := by
  rw [List.reverse_cons, List.map_append]
  simp
theorem stk_push (p : D × D) (r : List (D × D)) : r.reverse.map pw ++ [pw p] = (p :: r).reverse.map pw := by
  rw [List.reverse_cons, List.map_append]
  rfl
theorem fn__law_same (B : Base P w K mg base) : Fn P w K mg base "_law_same" 1 ["told", "due"] fs__law_same := by
  refine fn_mk (st := s__law_same) (gl__law_same B) (df__law_same B) sc__law_same (fun ws μ R X h => (by first | exact h.1 | (obtain ⟨_, rfl, _⟩ := h; rfl) | (obtain ⟨_, _, rfl, _⟩ := h; rfl) | (obtain ⟨_, _, _, rfl, _⟩ := h; rfl) | (obtain ⟨_, _, _, _, rfl, _⟩ := h; rfl) | (obtain ⟨_, _, _, _, _, rfl, _⟩ := h; rfl) | (obtain ⟨_, _, _, _, _, _, rfl, _⟩ := h; rfl) | (obtain ⟨_, _, _, _, _, _, _, rfl, _⟩ := h; rfl) | (obtain ⟨_, _, _, _, _, _, _, _, rfl, _⟩ := h; rfl))) (fun _ _ _ _ _ _ us hl => match us, hl with | [_, _], _ => rfl) fun cdv A outer s H E hr => ⟨_, (pss_cons (ps_set (i := 2) sc__law_same.nd rfl (Or.inl rfl) (pe_lst (pa_cons (pe_tup (pa_cons (pv 0) (pa_cons (pv 1) pa_nil))) pa_nil)))
  (pss_cons (ps_for (passes_of rfl) rfl (pi_range1 rfl (fr_range B) (pa_cons pe_int pa_nil)) (pg_name (i := 3) sc__law_same.nd rfl (Or.inl rfl)) (pss_cons (ps_if (pt_cmpR op_eq (pe_callB cr_len (by rfl) (fr_len B) (by decide +kernel) (pa_cons (pv 2) pa_nil)) pe_int (nomark _)) (pss_one ps_break) pss_nil)
  (pss_cons (ps_set (i := 4) sc__law_same.nd rfl (Or.inl rfl) (pe_bm0 PySem.F.plainAttrs_list PySem.F.slot_list_pop PySem.F.type_list_pop mt_pop (pv 2)))
  (pss_cons (ps_set (i := 5) sc__law_same.nd rfl (Or.inl rfl) (pe_ix ix_seq (pv 4) pe_int (fun _ _ => rfl)))
  (pss_cons (ps_set (i := 6) sc__law_same.nd rfl (Or.inl rfl) (pe_ix ix_seq (pv 4) pe_int (fun _ _ => rfl)))
  (pss_one (ps_if (pt_cmpR op_isNon (pv 6) pe_non (nomark _)) (pss_one (ps_if (pt_cmpR op_notNon (pv 5) pe_non (nomark _)) (pss_one (ps_ret pe_bl)) pss_nil)) (pss_one (ps_if (pt_val (pe_callB call_isi (by rfl) (fr_isinstance B) (by decide +kernel) (pa_cons (pv 6) (pa_cons (pe_bltn (v := .ty "bool") rfl (fr_bool B) (by decide +kernel) rfl) pa_nil)))) (pss_one (ps_if (PW.pt (pw_or (pt_not (pt_val (pe_callB call_isi (by rfl) (fr_isinstance B) (by decide +kernel) (pa_cons (pv 5) (pa_cons (pe_bltn (v := .ty "bool") rfl (fr_bool B) (by decide +kernel) rfl) pa_nil))))) (pw_or1 (pt_cmpR op_ne (pv 5) (pv 6) (nomark _))))) (pss_one (ps_ret pe_bl)) pss_nil)) (pss_one (ps_if (pt_val (pe_callB call_isi (by rfl) (fr_isinstance B) (by decide +kernel) (pa_cons (pv 6) (pa_cons (pe_bltn (v := .ty "int") rfl (fr_int B) (by decide +kernel) rfl) pa_nil)))) (pss_one (ps_if (PW.pt (pw_or (pt_not (pt_val (pe_callB call_isi (by rfl) (fr_isinstance B) (by decide +kernel) (pa_cons (pv 5) (pa_cons (pe_bltn (v := .ty "int") rfl (fr_int B) (by decide +kernel) rfl) pa_nil))))) (pw_or (pt_val (pe_callB call_isi (by rfl) (fr_isinstance B) (by decide +kernel) (pa_cons (pv 5) (pa_cons (pe_bltn (v := .ty "bool") rfl (fr_bool B) (by decide +kernel) rfl) pa_nil)))) (pw_or1 (pt_cmpR op_ne (pv 5) (pv 6) (nomark _)))))) (pss_one (ps_ret pe_bl)) pss_nil)) (pss_one (ps_if (pt_val (pe_callB call_isi (by rfl) (fr_isinstance B) (by decide +kernel) (pa_cons (pv 6) (pa_cons (pe_bltn (v := .ty "str") rfl (fr_str B) (by decide +kernel) rfl) pa_nil)))) (pss_one (ps_if (PW.pt (pw_or (pt_not (pt_val (pe_callB call_isi (by rfl) (fr_isinstance B) (by decide +kernel) (pa_cons (pv 5) (pa_cons (pe_bltn (v := .ty "str") rfl (fr_str B) (by decide +kernel) rfl) pa_nil))))) (pw_or1 (pt_cmpR op_ne (pv 5) (pv 6) (nomark _))))) (pss_one (ps_ret pe_bl)) pss_nil)) (pss_one (ps_if (pt_val (pe_callB call_isi (by rfl) (fr_isinstance B) (by decide +kernel) (pa_cons (pv 6) (pa_cons (pe_bltn (v := .ty "dict") rfl (fr_dict B) (by decide +kernel) rfl) pa_nil)))) pss_never (pss_cons (ps_if (PW.pt (pw_and (pt_val (pe_callB call_isi (by rfl) (fr_isinstance B) (by decide +kernel) (pa_cons (pv 6) (pa_cons (pe_bltn (v := .ty "tuple") rfl (fr_tuple B) (by decide +kernel) rfl) pa_nil)))) (pw_and1 (pt_not (pt_val (pe_callB call_isi (by rfl) (fr_isinstance B) (by decide +kernel) (pa_cons (pv 5) (pa_cons (pe_bltn (v := .ty "tuple") rfl (fr_tuple B) (by decide +kernel) rfl) pa_nil)))))))) (pss_one (ps_ret pe_bl)) pss_nil)
  (pss_cons (ps_if (PW.pt (pw_and (pt_val (pe_callB call_isi (by rfl) (fr_isinstance B) (by decide +kernel) (pa_cons (pv 6) (pa_cons (pe_bltn (v := .ty "list") rfl (fr_list B) (by decide +kernel) rfl) pa_nil)))) (pw_and1 (pt_not (pt_val (pe_callB call_isi (by rfl) (fr_isinstance B) (by decide +kernel) (pa_cons (pv 5) (pa_cons (pe_bltn (v := .ty "list") rfl (fr_list B) (by decide +kernel) rfl) pa_nil)))))))) (pss_one (ps_ret pe_bl)) pss_nil)
  (pss_cons (ps_if (pt_cmpR op_ne (pe_callB cr_len (by rfl) (fr_len B) (by decide +kernel) (pa_cons (pv 5) pa_nil)) (pe_callB cr_len (by rfl) (fr_len B) (by decide +kernel) (pa_cons (pv 6) pa_nil)) (nomark _)) (pss_one (ps_ret pe_bl)) pss_nil)
  (pss_one (ps_for (passes_of rfl) rfl (pi_range1 rfl (fr_range B) (pa_cons (pe_callB cr_len (by rfl) (fr_len B) (by decide +kernel) (pa_cons (pv 6) pa_nil)) pa_nil)) (pg_name (i := 8) sc__law_same.nd rfl (Or.inl rfl)) (pss_one (ps_expr (pe_bm PySem.F.plainAttrs_list PySem.F.slot_list_append PySem.F.type_list_append mt_append (pv 2) (pa_cons (pe_tup (pa_cons (pe_ix ix_seq (pv 5) (pv 8) (fun _ _ => rfl)) (pa_cons (pe_ix ix_seq (pv 6) (pv 8) (fun _ _ => rfl)) pa_nil))) pa_nil))))))))))))))))))))))))
  (pss_one (ps_ret pe_bl)))), fun ws μ R X h => ?_⟩
  obtain ⟨a, b, rfl, oa, ob, hz, hR⟩ := h
  have hT : a = b → R (.b true) μ := fun e => hR true ⟨fun _ => e, fun _ => rfl⟩
  have hF : ¬ a = b → R (.b false) μ := fun e => hR false ⟨fun h => (by cases h), fun h => absurd h e⟩
  clear hR
  change RS _ _ [some _, some _, none, none, none, none, none, none, none] _ _
  (try dsimp only [cxOf])
  wtm_at "rs"
  refine rs_asg (re_lst (ra_cons (re_tup (ra_v (by wtm_at "va") ⟨_, rfl, by wtm_at "sz", ra_nil (dl_o (by wtm_at "sz") fun l => rg_name rfl ?_)⟩))))
  dsimp only [List.set_cons_zero, List.set_cons_succ]
  wtm_at "rs"
  refine rs_to (fun ε' μ' => ∃ q o3 o4 o5 o6 o7 o8, ε' = [some (.dat a), some (.dat b), some (.at l), o3, o4, o5, o6, o7, o8] ∧ a = b ∧ μ' = (l, stk q) :: μ) ?_ ?_
  rotate_left
  · rintro ε' μ' ⟨q, o3, o4, o5, o6, o7, o8, rfl, e, rfl⟩
    refine rs_fgt 1 ?_
    rw [List.drop_one, List.tail_cons]
    wtm_at "rs"
    exact hT e
  refine rs_forR1 (fun i ε' μ' => ∃ ps o3 o4 o5 o6 o7 o8, ε' = [some (.dat a), some (.dat b), some (.at l), o3, o4, o5, o6, o7, o8] ∧ μ' = (l, stk ps) :: μ ∧ SameI a b i ps) (by wtm_at "va") (by decide) (by decide) ⟨[(a, b)], _, _, _, _, _, _, rfl, rfl, .start oa ob⟩ ?_ ?_
  rotate_left
  · rintro ε' μ' ⟨ps, o3, o4, o5, o6, o7, o8, rfl, rfl, hs⟩
    have h1 := hs.sz
    have h2 := szS_len ps
    cases ps with
    | nil => exact ⟨_, _, _, _, _, _, _, rfl, hs.yes, rfl⟩
    | cons p r =>
      have h3 := D.sz_pos p.2
      rw [szS] at h1
      have h4 : (10000000 : Int).toNat = 10000000 := by decide
      rw [h4] at h1
      omega
  rintro i ε' μ' hi ⟨ps, o3, o4, o5, o6, o7, o8, rfl, rfl, hs⟩
  wtm_at "rs"
  have hlen : (ps.reverse.map pw).length = ps.length := by rw [List.length_map, List.length_reverse]
  refine rs_ifv (vt_test (ve_op (ve_cb (by wtm_at "va") (vc_lenA0 rfl)) ve_int vo_eqI)) ?_ ?_
  · intro hb; (try simp only [decide_eq_true_eq, decide_eq_false_iff_not, Bool.not_eq_true', Bool.and_eq_true, Bool.or_eq_true, Bool.not_eq_false', Bool.and_eq_false_imp, Bool.or_eq_false_iff, Bool.not_true, Bool.not_false] at hb)
    cases ps with
    | cons p r =>
      rw [hlen, List.length_cons] at hb
      omega
    | nil =>
      wtm_at "rs"
      exact ⟨_, _, _, _, _, _, _, rfl, hs.yes, rfl⟩
  · intro hb; (try simp only [decide_eq_true_eq, decide_eq_false_iff_not, Bool.not_eq_true', Bool.and_eq_true, Bool.or_eq_true, Bool.not_eq_false', Bool.and_eq_false_imp, Bool.or_eq_false_iff, Bool.not_true, Bool.not_false] at hb)
    cases ps with
    | nil => exact absurd rfl hb
    | cons p ps =>
      obtain ⟨d, e⟩ := p
      wtm_at "rs"
      wtm_at "rs"
      refine rs_asg (re_pop (k := 0) (by wtm_at "ve") rfl (stk_pop (d, e) ps).1 (rg_name rfl ?_))
      rw [(stk_pop (d, e) ps).2]
      change RS _ _ [some (.dat a), some (.dat b), some (.at l), some (.i (i : Int)), some (.dat (.tup [d, e])), o5, o6, o7, o8] ((l, stk ps) :: μ) _
      repeat wtm_at "rs"
      have hd := (hs.ok _ List.mem_cons_self).1
      have he := (hs.ok _ List.mem_cons_self).2
      have hno := fun z : d ≠ e => hF (hs.no z)
      have hgo := fun z : d = e => hs.leaf z
      dsimp only at hd he
      cases e with
      | ty _ => cases he
      | cls _ => cases he
      | exc _ _ _ => cases he
      | non =>
        wtm_at "ifT"
        cases d with
        | ty _ => cases hd
        | cls _ => cases hd
        | exc _ _ _ => cases hd
        | non =>
          wtm_at "ifF"
          wtm_at "rs"
          exact ⟨ps, _, _, _, _, _, _, rfl, rfl, hgo rfl⟩
        | _ =>
          wtm_at "ifT"
          refine rs_fgt 1 ?_
          wtm_at "rs"
          exact hno (by intro z; cases z)
      | bl x =>
        wtm_at "ifF"
        wtm_at "ifT"
        cases d with
        | ty _ => cases hd
        | cls _ => cases hd
        | exc _ _ _ => cases hd
        | bl y =>
          refine rs_ifv (by wtm_at "vt") ?_ ?_
          · intro hb
            refine rs_fgt 1 ?_
            wtm_at "rs"
            exact hno (by intro z; cases z; simp at hb)
          · intro hb
            wtm_at "rs"
            exact ⟨ps, _, _, _, _, _, _, rfl, rfl, hgo (by simp at hb; rw [hb])⟩
        | _ =>
          wtm_at "ifT"
          refine rs_fgt 1 ?_
          wtm_at "rs"
          exact hno (by intro z; cases z)
      | int x =>
        wtm_at "ifF"
        wtm_at "ifF"
        wtm_at "ifT"
        cases d with
        | ty _ => cases hd
        | cls _ => cases hd
        | exc _ _ _ => cases hd
        | int y =>
          refine rs_ifv (by wtm_at "vt") ?_ ?_
          · intro hb
            refine rs_fgt 1 ?_
            wtm_at "rs"
            exact hno (by intro z; cases z; simp at hb)
          · intro hb
            wtm_at "rs"
            exact ⟨ps, _, _, _, _, _, _, rfl, rfl, hgo (by simp at hb; rw [hb])⟩
        | _ =>
          wtm_at "ifT"
          refine rs_fgt 1 ?_
          wtm_at "rs"
          exact hno (by intro z; cases z)
      | str x =>
        wtm_at "ifF"
        wtm_at "ifF"
        wtm_at "ifF"
        wtm_at "ifT"
        cases d with
        | ty _ => cases hd
        | cls _ => cases hd
        | exc _ _ _ => cases hd
        | str y =>
          refine rs_ifv (by wtm_at "vt") ?_ ?_
          · intro hb
            refine rs_fgt 1 ?_
            wtm_at "rs"
            exact hno (by intro z; cases z; simp at hb)
          · intro hb
            wtm_at "rs"
            exact ⟨ps, _, _, _, _, _, _, rfl, rfl, hgo (by simp at hb; rw [hb])⟩
        | _ =>
          wtm_at "ifT"
          refine rs_fgt 1 ?_
          wtm_at "rs"
          exact hno (by intro z; cases z)
      | tup ys =>
        wtm_at "ifF"
        wtm_at "ifF"
        wtm_at "ifF"
        wtm_at "ifF"
        wtm_at "ifF"
        cases d with
        | ty _ => cases hd
        | cls _ => cases hd
        | exc _ _ _ => cases hd
        | tup xs =>
          repeat (wtm_at "rs"; (wtm_at "ifF"; refine rs_next ?_))
          have hzz := szS_len ps
          have hsz := hs.sz
          rw [szS, D.sz] at hsz
          have hyl := len_szL ys
          wtm_at "rs"
          refine rs_ifv (by wtm_at "vt") ?_ ?_
          · intro hb
            refine rs_fgt 1 ?_
            wtm_at "rs"
            exact hno (by intro z; cases z; simp at hb)
          intro hb
          have hl : xs.length = ys.length := by simp at hb; omega
          wtm_at "rs"
          refine rs_to (fun ε' μ' => ∃ o7 o8, ε' = [some (.dat a), some (.dat b), some (.at l), some (.i (i : Int)), some (.dat (.tup [.tup xs, .tup ys])), some (.dat (.tup xs)), some (.dat (.tup ys)), o7, o8] ∧ μ' = (l, stk ((xs.zip ys).reverse ++ ps)) :: μ) ?_ ?_
          rotate_left
          · rintro ε' μ' ⟨o7, o8, rfl, rfl⟩
            exact ⟨_, _, _, _, _, _, _, rfl, rfl, hs.seq hl hd he (by constructor <;> (intro z; cases z; rfl)) (by rw [D.sz])⟩
          refine rs_forR1 (fun j ε' μ' => ∃ o7 o8, ε' = [some (.dat a), some (.dat b), some (.at l), some (.i (i : Int)), some (.dat (.tup [.tup xs, .tup ys])), some (.dat (.tup xs)), some (.dat (.tup ys)), o7, o8] ∧ μ' = (l, stk (((xs.zip ys).take j).reverse ++ ps)) :: μ) (by wtm_at "va") (by omega) (by omega) ⟨_, _, rfl, rfl⟩ ?_ ?_
          rotate_left
          · rintro ε' μ' ⟨o7, o8, rfl, rfl⟩
            refine ⟨_, _, rfl, ?_⟩
            rw [Int.toNat_natCast, List.take_of_length_le (by rw [List.length_zip]; omega)]
          rintro j ε' μ' hj ⟨o7, o8, rfl, rfl⟩
          have hj2 : j < ys.length := by omega
          have hj1 : j < xs.length := by omega
          refine rs_append (k := 0) (by wtm_at "ve") rfl (re_tup (ra_v (va_cons (ve_op (by wtm_at "ve") (by wtm_at "ve") (vo_ixT (Sn.atI_nat (List.getElem?_eq_getElem hj1)))) (va_cons (ve_op (by wtm_at "ve") (by wtm_at "ve") (vo_ixT (Sn.atI_nat (List.getElem?_eq_getElem hj2)))) va_nil)) ⟨_, rfl, by wtm_at "sz", 0, _, rfl, ?_, _, _, rfl, ?_⟩))
          · rw [List.length_map, List.length_reverse, List.length_append, List.length_reverse, List.length_take, List.length_zip]
            have : (1000002 : Nat) ≤ sizeLine := by decide
            omega
          · show _ = (l, stk _) :: μ
            have e1 : (xs.zip ys)[j]? = some (xs[j], ys[j]) := by
              rw [List.getElem?_eq_getElem (by rw [List.length_zip]; omega), List.getElem_zip]
            have e2 : ((xs.zip ys).take (j + 1)).reverse ++ ps = (xs[j], ys[j]) :: (((xs.zip ys).take j).reverse ++ ps) := by
              rw [take_snoc e1, List.reverse_append]
              rfl
            rw [e2]
            show _ = (l, HC.lst _) :: μ
            rw [← stk_push]
            rfl
        | _ =>
          wtm_at "rs"
          first
          | (wtm_at "ifT"
             refine rs_fgt 1 ?_
             wtm_at "rs"
             exact hno (by intro z; cases z))
          | ((wtm_at "ifF"; refine rs_next ?_)
             wtm_at "rs"
             wtm_at "ifT"
             refine rs_fgt 1 ?_
             wtm_at "rs"
             exact hno (by intro z; cases z))
      | lst ys =>
        wtm_at "ifF"
        wtm_at "ifF"
        wtm_at "ifF"
        wtm_at "ifF"
        wtm_at "ifF"
        cases d with
        | ty _ => cases hd
        | cls _ => cases hd
        | exc _ _ _ => cases hd
        | lst xs =>
          repeat (wtm_at "rs"; (wtm_at "ifF"; refine rs_next ?_))
          have hzz := szS_len ps
          have hsz := hs.sz
          rw [szS, D.sz] at hsz
          have hyl := len_szL ys
          wtm_at "rs"
          refine rs_ifv (by wtm_at "vt") ?_ ?_
          · intro hb
            refine rs_fgt 1 ?_
            wtm_at "rs"
            exact hno (by intro z; cases z; simp at hb)
          intro hb
          have hl : xs.length = ys.length := by simp at hb; omega
          wtm_at "rs"
          refine rs_to (fun ε' μ' => ∃ o7 o8, ε' = [some (.dat a), some (.dat b), some (.at l), some (.i (i : Int)), some (.dat (.tup [.lst xs, .lst ys])), some (.dat (.lst xs)), some (.dat (.lst ys)), o7, o8] ∧ μ' = (l, stk ((xs.zip ys).reverse ++ ps)) :: μ) ?_ ?_
          rotate_left
          · rintro ε' μ' ⟨o7, o8, rfl, rfl⟩
            exact ⟨_, _, _, _, _, _, _, rfl, rfl, hs.seq hl hd he (by constructor <;> (intro z; cases z; rfl)) (by rw [D.sz])⟩
          refine rs_forR1 (fun j ε' μ' => ∃ o7 o8, ε' = [some (.dat a), some (.dat b), some (.at l), some (.i (i : Int)), some (.dat (.tup [.lst xs, .lst ys])), some (.dat (.lst xs)), some (.dat (.lst ys)), o7, o8] ∧ μ' = (l, stk (((xs.zip ys).take j).reverse ++ ps)) :: μ) (by wtm_at "va") (by omega) (by omega) ⟨_, _, rfl, rfl⟩ ?_ ?_
          rotate_left
          · rintro ε' μ' ⟨o7, o8, rfl, rfl⟩
            refine ⟨_, _, rfl, ?_⟩
            rw [Int.toNat_natCast, List.take_of_length_le (by rw [List.length_zip]; omega)]
          rintro j ε' μ' hj ⟨o7, o8, rfl, rfl⟩
          have hj2 : j < ys.length := by omega
          have hj1 : j < xs.length := by omega
          refine rs_append (k := 0) (by wtm_at "ve") rfl (re_tup (ra_v (va_cons (ve_op (by wtm_at "ve") (by wtm_at "ve") (vo_ixL (Sn.atI_nat (List.getElem?_eq_getElem hj1)))) (va_cons (ve_op (by wtm_at "ve") (by wtm_at "ve") (vo_ixL (Sn.atI_nat (List.getElem?_eq_getElem hj2)))) va_nil)) ⟨_, rfl, by wtm_at "sz", 0, _, rfl, ?_, _, _, rfl, ?_⟩))
          · rw [List.length_map, List.length_reverse, List.length_append, List.length_reverse, List.length_take, List.length_zip]
            have : (1000002 : Nat) ≤ sizeLine := by decide
            omega
          · show _ = (l, stk _) :: μ
            have e1 : (xs.zip ys)[j]? = some (xs[j], ys[j]) := by
              rw [List.getElem?_eq_getElem (by rw [List.length_zip]; omega), List.getElem_zip]
            have e2 : ((xs.zip ys).take (j + 1)).reverse ++ ps = (xs[j], ys[j]) :: (((xs.zip ys).take j).reverse ++ ps) := by
              rw [take_snoc e1, List.reverse_append]
              rfl
            rw [e2]
            show _ = (l, HC.lst _) :: μ
            rw [← stk_push]
            rfl
        | _ =>
          wtm_at "rs"
          first
          | (wtm_at "ifT"
             refine rs_fgt 1 ?_
             wtm_at "rs"
             exact hno (by intro z; cases z))
          | ((wtm_at "ifF"; refine rs_next ?_)
             wtm_at "rs"
             wtm_at "ifT"
             refine rs_fgt 1 ?_
             wtm_at "rs"
             exact hno (by intro z; cases z))
theorem sameT {E : En} {ε : Ep} {μ : Mu} {Ψ : W → Mu → Prop} {a b : D} (e : a = b) (ob : b.ok = true) (hz : b.sz ≤ 1000000) (q : Ψ (.b true) μ) : CallF E fs__law_same [.dat a, .dat b] ε μ Ψ := ⟨0, a, b, rfl, e ▸ ob, ob, hz, fun r hr => by
  have : r = true := hr.mpr e
  subst this
  exact q⟩

/-! _law_refused: the refusal of that name -/
def fs__law_refused : FS := fun ws μ R _ => ∃ n : Str, ws = [.dat (refD n), .s n] ∧ R (.b true) μ
theorem fn__law_refused (B : Base P w K mg base) : Fn P w K mg base "_law_refused" 2 ["told", "name"] fs__law_refused := by
  have F__law_same := fn__law_same B
  refine fn_mk (st := s__law_refused) (gl__law_refused B) (df__law_refused B) sc__law_refused (fun ws μ R X h => (by first | exact h.1 | (obtain ⟨_, rfl, _⟩ := h; rfl) | (obtain ⟨_, _, rfl, _⟩ := h; rfl) | (obtain ⟨_, _, _, rfl, _⟩ := h; rfl) | (obtain ⟨_, _, _, _, rfl, _⟩ := h; rfl) | (obtain ⟨_, _, _, _, _, rfl, _⟩ := h; rfl) | (obtain ⟨_, _, _, _, _, _, rfl, _⟩ := h; rfl) | (obtain ⟨_, _, _, _, _, _, _, rfl, _⟩ := h; rfl) | (obtain ⟨_, _, _, _, _, _, _, _, rfl, _⟩ := h; rfl))) (fun _ _ _ _ _ _ us hl => match us, hl with | [_, _], _ => rfl) fun cdv A outer s H E hr => ⟨_, (pss_one (ps_ret (pe_fn F__law_same hr (by decide) rfl (takes_of rfl rfl rfl rfl) (pa_cons (pv 0) (pa_cons (pe_tup (pa_cons pe_str (pa_cons (pv 1) (pa_cons pe_bl (pa_cons pe_bl (pa_cons pe_bl pa_nil)))))) pa_nil))))), fun ws μ R X h => ?_⟩
  obtain ⟨n, rfl, hR⟩ := h
  change RS _ _ [some _, some _] _ _
  (try dsimp only [cxOf])
  wtm_at "go"
  refine sameT rfl rfl (by show 6 ≤ 1000000; decide) ?_
  exact hR

/-! _law_ceiling_right: the ceiling is told rightly -/
def fs__law_ceiling_right : FS := fun ws μ R _ => ∃ (word : Str) (a b : Int), ws = [.s word, .i a, .i b] ∧ (word = "named" ∨ word = "by place") ∧ Bd 8000 a ∧ Bd 8000 b ∧ R (.b true) μ
theorem fn__law_ceiling_right (B : Base P w K mg base) : Fn P w K mg base "_law_ceiling_right" 7 ["word", "one", "two"] fs__law_ceiling_right := by
  have F__law_call := fn__law_call B
  have F__law_refused := fn__law_refused B
  refine fn_mk (st := s__law_ceiling_right) (gl__law_ceiling_right B) (df__law_ceiling_right B) sc__law_ceiling_right (fun ws μ R X h => (by first | exact h.1 | (obtain ⟨_, rfl, _⟩ := h; rfl) | (obtain ⟨_, _, rfl, _⟩ := h; rfl) | (obtain ⟨_, _, _, rfl, _⟩ := h; rfl) | (obtain ⟨_, _, _, _, rfl, _⟩ := h; rfl) | (obtain ⟨_, _, _, _, _, rfl, _⟩ := h; rfl) | (obtain ⟨_, _, _, _, _, _, rfl, _⟩ := h; rfl) | (obtain ⟨_, _, _, _, _, _, _, rfl, _⟩ := h; rfl) | (obtain ⟨_, _, _, _, _, _, _, _, rfl, _⟩ := h; rfl))) (fun _ _ _ _ _ _ us hl => match us, hl with | [_, _, _], _ => rfl) fun cdv A outer s H E hr => ⟨_, (pss_cons (ps_set (i := 3) sc__law_ceiling_right.nd rfl (Or.inl rfl) (pe_fn F__law_call hr (by decide) rfl (takes_of rfl rfl rfl rfl) (pa_cons (pv 0) (pa_cons (pv 1) (pa_cons (pv 2) pa_nil)))))
  (pss_cons (ps_if (pt_cmpR op_lt (pv 2) pe_int (nomark _)) (pss_one (ps_ret (pe_fn F__law_refused hr (by decide) rfl (takes_of rfl rfl rfl rfl) (pa_cons (pv 3) (pa_cons pe_str pa_nil))))) pss_nil)
  (pss_cons (ps_if (PW.pt (pw_or (pt_cmpR op_ne (pe_callB cr_len (by rfl) (fr_len B) (by decide +kernel) (pa_cons (pv 3) pa_nil)) pe_int (nomark _)) (pw_or (pt_not (pt_val (pe_callB call_isi (by rfl) (fr_isinstance B) (by decide +kernel) (pa_cons (pe_ix ix_seq (pv 3) pe_int (fun _ _ => rfl)) (pa_cons (pe_bltn (v := .ty "int") rfl (fr_int B) (by decide +kernel) rfl) pa_nil))))) (pw_or1 (pt_val (pe_callB call_isi (by rfl) (fr_isinstance B) (by decide +kernel) (pa_cons (pe_ix ix_seq (pv 3) pe_int (fun _ _ => rfl)) (pa_cons (pe_bltn (v := .ty "bool") rfl (fr_bool B) (by decide +kernel) rfl) pa_nil)))))))) (pss_one (ps_ret pe_bl)) pss_nil)
  (pss_one (ps_ret (pe_chain op_lt op_le (pe_op op_mulW (pe_op op_sub (pe_ix ix_seq (pv 3) pe_int (fun _ _ => rfl)) pe_int) (pv 2)) (pv 1) (pe_op op_mulW (pe_ix ix_seq (pv 3) pe_int (fun _ _ => rfl)) (pv 2)))))))), fun ws μ R X h => ?_⟩
  obtain ⟨word, a, b, rfl, hw, ha, hb, hR⟩ := h
  change RS _ _ [some _, some _, some _, none] _ _
  (try dsimp only [cxOf])
  wtm_at "go"
  refine callF1 ⟨rfl, a, b, .inr (.inr ⟨word, hw, rfl, hb, fun z => ?_, fun z => ?_⟩)⟩
  · wtm_at "go"
    refine rs_ifT (by wtm_at "vt") (by simpa using z) ?_
    wtm_at "go"
    exact callF1 ⟨_, rfl, hR⟩
  · obtain ⟨h1, h2⟩ := ceil_ok (a := a) z
    have ht : Bd 8000 (-(-a / b)) := Bd.neg (ha.neg.le (Int.natAbs_ediv_le_natAbs _ _))
    generalize -(-a / b) = t at *
    have ht1 : Bd 8001 (t - 1) := by
      rw [Int.sub_eq_add_neg]
      exact ht.add1 ((Bd.om (i := -1) (by decide) (by decide)).up (by decide))
    wtm_at "go"
    refine rs_ifF (by wtm_at "vt") (by simp; omega) ?_
    wtm_at "go"
    wtm_at "ifF"
    wtm_at "go"
    have e1 : decide ((t - 1) * b < a) = true := decide_eq_true h1
    have e2 : decide (a ≤ t * b) = true := decide_eq_true h2
    rw [e1, e2]
    exact hR

/-! _law_pick: one of the things -/
def fs__law_pick : FS := fun ws μ R _ => ∃ (st : Addr) (s : List W) (d : D) (ds : List D), ws = [.at st, .dat d] ∧ μ = [(st, .lst s)] ∧ Sto s ∧ (d = .lst ds ∨ d = .tup ds) ∧ ds ≠ [] ∧ ds.length < 1000000 ∧ ∀ x s', x ∈ ds → Sto s' → R (.dat x) [(st, .lst s')]
theorem pick_at {ds : List D} {r : Int} (h0 : 0 ≤ r) (h1 : r < (ds.length : Int)) : ∃ x, x ∈ ds ∧ atI ds r = some x := by
  have hl : r.toNat < ds.length := by omega
  exact ⟨ds[r.toNat], List.getElem_mem hl, atI_int h0 (List.getElem?_eq_getElem hl)⟩
theorem pick_bd {n : Nat} (h : n < 1000000) : Bd 8000 (n : Int) := Bd.up (n := 64) (Bd.om (by omega) (by omega)) (by decide)
theorem fn__law_pick (B : Base P w K mg base) : Fn P w K mg base "_law_pick" 4 ["store", "things"] fs__law_pick := by
  have F__law_take := fn__law_take B
  refine fn_mk (st := s__law_pick) (gl__law_pick B) (df__law_pick B) sc__law_pick (fun ws μ R X h => (by first | exact h.1 | (obtain ⟨_, rfl, _⟩ := h; rfl) | (obtain ⟨_, _, rfl, _⟩ := h; rfl) | (obtain ⟨_, _, _, rfl, _⟩ := h; rfl) | (obtain ⟨_, _, _, _, rfl, _⟩ := h; rfl) | (obtain ⟨_, _, _, _, _, rfl, _⟩ := h; rfl) | (obtain ⟨_, _, _, _, _, _, rfl, _⟩ := h; rfl) | (obtain ⟨_, _, _, _, _, _, _, rfl, _⟩ := h; rfl) | (obtain ⟨_, _, _, _, _, _, _, _, rfl, _⟩ := h; rfl))) (fun _ _ _ _ _ _ us hl => match us, hl with | [_, _], _ => rfl) fun cdv A outer s H E hr => ⟨_, (pss_cons (ps_if (pt_cmpR op_eq (pe_callB cr_len (by rfl) (fr_len B) (by decide +kernel) (pa_cons (pv 1) pa_nil)) pe_int (nomark _)) (pss_one (ps_ret pe_non)) pss_nil)
  (pss_one (ps_ret (pe_ix ix_seq (pv 1) (pe_fn F__law_take hr (by decide) rfl (takes_of rfl rfl rfl rfl) (pa_cons (pv 0) (pa_cons (pe_callB cr_len (by rfl) (fr_len B) (by decide +kernel) (pa_cons (pv 1) pa_nil)) pa_nil))) (fun _ _ => rfl))))), fun ws μ R X h => ?_⟩
  obtain ⟨st, s, d, ds, rfl, rfl, hS, hd, hne, hl, hR⟩ := h
  change RS _ _ [some _, some _] _ _
  (try dsimp only [cxOf])
  have hp : 0 < ds.length := List.length_pos_iff.mpr hne
  rcases hd with rfl | rfl
  all_goals
    wtm_at "rs"
    refine rs_ifv (by wtm_at "vt") ?_ ?_
    · intro hb; (try simp only [decide_eq_true_eq, decide_eq_false_iff_not, Bool.not_eq_true', Bool.and_eq_true, Bool.or_eq_true, Bool.not_eq_false', Bool.and_eq_false_imp, Bool.or_eq_false_iff, Bool.not_true, Bool.not_false] at hb)
      omega
    intro hb; (try simp only [decide_eq_true_eq, decide_eq_false_iff_not, Bool.not_eq_true', Bool.and_eq_true, Bool.or_eq_true, Bool.not_eq_false', Bool.and_eq_false_imp, Bool.or_eq_false_iff, Bool.not_true, Bool.not_false] at hb)
    wtm_at "rs"
    refine rs_ret (re_op (re_v (by wtm_at "ve") (re_call (ra_v (by wtm_at "va") ⟨0, st, s, _, rfl, rfl, hS, pick_bd hl, fun r s' hS' h0 h1 => ?_⟩))))
    obtain ⟨x, hx, ha⟩ := pick_at (ds := ds) (r := r) h0 (by omega)
    exact ro_v (by wtm_at "vo") (hR x s' hx hS')
theorem seq_or {d : D} {ds : List D} (h : d.seq = some ds) : d = .lst ds ∨ d = .tup ds := by
  cases d with
  | lst es => cases h; exact .inl rfl
  | tup es => cases h; exact .inr rfl
  | _ => cases h
theorem pick0 {E : En} {ε : Ep} {Ψ : W → Mu → Prop} {st : Addr} {s : List W} {d : D} {ds : List D} (hd : d.seq = some ds) (h0 : ds ≠ []) (hl : ds.length < 1000000) (hS : Sto s) (h : ∀ x s', x ∈ ds → Sto s' → Ψ (.dat x) [(st, .lst s')]) : CallF E fs__law_pick [.at st, .dat d] ε [(st, .lst s)] Ψ := ⟨0, st, s, d, ds, rfl, rfl, hS, seq_or hd, h0, hl, h⟩
theorem pick1 {E : En} {ε : Ep} {Ψ : W → Mu → Prop} {st : Addr} {s : List W} {d : D} {ds : List D} {p : Addr × HC} (hd : d.seq = some ds) (h0 : ds ≠ []) (hl : ds.length < 1000000) (hS : Sto s) (h : ∀ x s', x ∈ ds → Sto s' → Ψ (.dat x) [p, (st, .lst s')]) : CallF E fs__law_pick [.at st, .dat d] ε [p, (st, .lst s)] Ψ := ⟨1, st, s, d, ds, rfl, rfl, hS, seq_or hd, h0, hl, h⟩

/-! _law_number: some int -/
def fs__law_number : FS := fun ws μ R _ => ∃ (st : Addr) (s : List W), ws = [.at st] ∧ μ = [(st, .lst s)] ∧ Sto s ∧ ∀ r s', Sto s' → Bd 1200 r → R (.i r) [(st, .lst s')]
theorem fn__law_number (B : Base P w K mg base) : Fn P w K mg base "_law_number" 6 ["store"] fs__law_number := by
  have F__law_take := fn__law_take B
  have F__law_pick := fn__law_pick B
  have F__law_rising := fn__law_rising B
  refine fn_mk (st := s__law_number) (gl__law_number B) (df__law_number B) sc__law_number (fun ws μ R X h => (by first | exact h.1 | (obtain ⟨_, rfl, _⟩ := h; rfl) | (obtain ⟨_, _, rfl, _⟩ := h; rfl) | (obtain ⟨_, _, _, rfl, _⟩ := h; rfl) | (obtain ⟨_, _, _, _, rfl, _⟩ := h; rfl) | (obtain ⟨_, _, _, _, _, rfl, _⟩ := h; rfl) | (obtain ⟨_, _, _, _, _, _, rfl, _⟩ := h; rfl) | (obtain ⟨_, _, _, _, _, _, _, rfl, _⟩ := h; rfl) | (obtain ⟨_, _, _, _, _, _, _, _, rfl, _⟩ := h; rfl))) (fun _ _ _ _ _ _ us hl => match us, hl with | [_], _ => rfl) fun cdv A outer s H E hr => ⟨_, (pss_cons (ps_set (i := 1) sc__law_number.nd rfl (Or.inl rfl) (pe_fn F__law_take hr (by decide) rfl (takes_of rfl rfl rfl rfl) (pa_cons (pv 0) (pa_cons pe_int pa_nil))))
  (pss_cons (ps_set (i := 2) sc__law_number.nd rfl (Or.inl rfl) (pe_op op_sub pe_int (pe_op op_mul pe_int (pe_fn F__law_take hr (by decide) rfl (takes_of rfl rfl rfl rfl) (pa_cons (pv 0) (pa_cons pe_int pa_nil))))))
  (pss_cons (ps_if (pt_cmpR op_eq (pv 1) pe_int (nomark _)) (pss_one (ps_ret (pe_op op_sub (pe_fn F__law_take hr (by decide) rfl (takes_of rfl rfl rfl rfl) (pa_cons (pv 0) (pa_cons pe_int pa_nil))) pe_int))) pss_nil)
  (pss_cons (ps_if (pt_cmpR op_le (pv 1) pe_int (nomark _)) (pss_one (ps_ret (pe_op op_mulW (pv 2) (pe_fn F__law_take hr (by decide) rfl (takes_of rfl rfl rfl rfl) (pa_cons (pv 0) (pa_cons pe_int pa_nil)))))) pss_nil)
  (pss_cons (ps_if (pt_cmpR op_eq (pv 1) pe_int (nomark _)) (pss_one (ps_ret (pe_op op_mulW (pv 2) (pe_op op_add (pe_op op_sub (pe_op op_pow pe_int pe_int) pe_int) (pe_fn F__law_take hr (by decide) rfl (takes_of rfl rfl rfl rfl) (pa_cons (pv 0) (pa_cons pe_int pa_nil))))))) pss_nil)
  (pss_cons (ps_if (pt_cmpR op_eq (pv 1) pe_int (nomark _)) (pss_cons (ps_set (i := 3) sc__law_number.nd rfl (Or.inl rfl) (pe_fn F__law_pick hr (by decide) rfl (takes_of rfl rfl rfl rfl) (pa_cons (pv 0) (pa_cons (pe_lst (pa_cons pe_int (pa_cons pe_int (pa_cons pe_int (pa_cons pe_int (pa_cons pe_int (pa_cons pe_int pa_nil))))))) pa_nil))))
  (pss_one (ps_ret (pe_op op_mulW (pv 2) (pe_op op_sub (pe_op op_add (pe_fn F__law_rising hr (by decide) rfl (takes_of rfl rfl rfl rfl) (pa_cons (pv 3) (pa_cons (pe_op op_add pe_int (pe_fn F__law_take hr (by decide) rfl (takes_of rfl rfl rfl rfl) (pa_cons (pv 0) (pa_cons pe_int pa_nil)))) pa_nil))) (pe_fn F__law_take hr (by decide) rfl (takes_of rfl rfl rfl rfl) (pa_cons (pv 0) (pa_cons pe_int pa_nil)))) pe_int))))) pss_nil)
  (pss_cons (ps_if (pt_cmpR op_eq (pv 1) pe_int (nomark _)) (pss_one (ps_ret (pe_op op_mulW (pv 2) (pe_fn F__law_take hr (by decide) rfl (takes_of rfl rfl rfl rfl) (pa_cons (pv 0) (pa_cons (pe_op op_pow pe_int pe_int) pa_nil)))))) pss_nil)
  (pss_one (ps_ret (pe_op op_mulW (pv 2) (pe_fn F__law_take hr (by decide) rfl (takes_of rfl rfl rfl rfl) (pa_cons (pv 0) (pa_cons (pe_op op_powX (pe_op op_pow pe_int pe_int) pe_int) pa_nil))))))))))))), fun ws μ R X h => ?_⟩
  obtain ⟨st, s, rfl, rfl, hS, hR⟩ := h
  change RS _ _ [some _, none, none, none] _ _
  (try dsimp only [cxOf])
  wtm_at "go"
  refine take0 4 (by decide +kernel) hS fun kind s1 hS1 k0 k1 _ => ?_
  wtm_at "go"
  refine take0 4 (by decide +kernel) hS1 fun t s2 hS2 t0 t1 _ => ?_
  wtm_at "go"
  have hsg : Bd 64 (1 - 2 * t) := Bd.om (by omega) (by omega)
  obtain ⟨sg, e⟩ : ∃ sg, sg = 1 - 2 * t := ⟨_, rfl⟩
  rw [← e] at hsg ⊢
  clear e hS hS1 t0 t1 k0 k1
  refine rs_ifv (by wtm_at "vt") (fun _ => ?_) (fun _ => ?_)
  · wtm_at "go"
    refine take0 4 (by decide +kernel) hS2 fun r s3 hS3 r0 r1 rb => ?_
    wtm_at "go"
    exact hR _ _ hS3 ((Bd.om (by omega) (by omega)).up (by decide))
  wtm_at "go"
  refine rs_ifv (by wtm_at "vt") (fun _ => ?_) (fun _ => ?_)
  · wtm_at "go"
    refine take0 4 (by decide +kernel) hS2 fun r s3 hS3 r0 r1 rb => ?_
    wtm_at "go"
    exact hR _ _ hS3 ((hsg.mul rb).up (by decide))
  wtm_at "go"
  refine rs_ifv (by wtm_at "vt") (fun _ => ?_) (fun _ => ?_)
  · wtm_at "go"
    refine take0 4 (by decide +kernel) hS2 fun r s3 hS3 r0 r1 rb => ?_
    wtm_at "go"
    exact hR _ _ hS3 ((hsg.mul (Bd.add (n := 50) ⟨by decide +kernel⟩ rb)).up (by decide))
  wtm_at "go"
  refine rs_ifv (by wtm_at "vt") (fun _ => ?_) (fun _ => ?_)
  · wtm_at "go"
    wtm_at "fl"
    wtm_at "go"
    refine pick0 rfl (by simp) (by simp) hS2 fun x s3 hx hS3 => ?_
    obtain ⟨b, rfl, hb0, hb⟩ : ∃ b, x = .int b ∧ 0 ≤ b ∧ b < 1000 := by
      simp only [List.mem_cons, List.not_mem_nil, or_false] at hx
      rcases hx with h | h | h | h | h | h <;> exact ⟨_, h, by decide, by decide⟩
    have hbb : Bd 10 b := ⟨by show b.natAbs < 1024; omega⟩
    wtm_at "go"
    refine take0 40 (by decide +kernel) hS3 fun e s4 hS4 e0 e1 _ => ?_
    wtm_at "go"
    obtain ⟨en, rfl⟩ := Int.eq_ofNat_of_zero_le e0
    have ee : (1 : Int) + (en : Int) = ((1 + en : Nat) : Int) := by omega
    refine callF1 ⟨b, 1 + en, 10, by rw [ee], hbb, by omega, by omega, ?_⟩
    wtm_at "go"
    refine take0 4 (by decide +kernel) hS4 fun r s5 hS5 r0 r1 rb => ?_
    have hp2 : Bd 500 (b ^ (1 + en)) := (hbb.pow (1 + en)).up (by omega)
    wtm_at "go"
    exact hR _ _ hS5 ((hsg.mul ((hp2.add rb).sub (Bd.om (by decide) (by decide)))).up (by decide))
  wtm_at "go"
  refine rs_ifv (by wtm_at "vt") (fun _ => ?_) (fun _ => ?_)
  · wtm_at "go"
    refine take0 200 (by decide +kernel) hS2 fun r s3 hS3 r0 r1 rb => ?_
    wtm_at "go"
    exact hR _ _ hS3 ((hsg.mul rb).up (by decide))
  wtm_at "go"
  refine take0 1000 (by decide +kernel) hS2 fun r s3 hS3 r0 r1 rb => ?_
  wtm_at "go"
  exact hR _ _ hS3 ((hsg.mul rb).up (by decide))
theorem number0 {E : En} {ε : Ep} {Ψ : W → Mu → Prop} {st : Addr} {s : List W} (hS : Sto s) (h : ∀ r s', Sto s' → Bd 1200 r → Ψ (.i r) [(st, .lst s')]) : CallF E fs__law_number [.at st] ε [(st, .lst s)] Ψ := ⟨0, st, s, rfl, rfl, hS, h⟩

/-! _law_whole_of: the told int -/
def fs__law_whole_of : FS := fun ws μ R _ => ∃ r : Int, ws = [.dat (.tup [.str "told", .int r])] ∧ R (.i r) μ
theorem fn__law_whole_of (B : Base P w K mg base) : Fn P w K mg base "_law_whole_of" 1 ["told"] fs__law_whole_of := by
  refine fn_mk (st := s__law_whole_of) (gl__law_whole_of B) (df__law_whole_of B) sc__law_whole_of (fun ws μ R X h => (by first | exact h.1 | (obtain ⟨_, rfl, _⟩ := h; rfl) | (obtain ⟨_, _, rfl, _⟩ := h; rfl) | (obtain ⟨_, _, _, rfl, _⟩ := h; rfl) | (obtain ⟨_, _, _, _, rfl, _⟩ := h; rfl) | (obtain ⟨_, _, _, _, _, rfl, _⟩ := h; rfl) | (obtain ⟨_, _, _, _, _, _, rfl, _⟩ := h; rfl) | (obtain ⟨_, _, _, _, _, _, _, rfl, _⟩ := h; rfl) | (obtain ⟨_, _, _, _, _, _, _, _, rfl, _⟩ := h; rfl))) (fun _ _ _ _ _ _ us hl => match us, hl with | [_], _ => rfl) fun cdv A outer s H E hr => ⟨_, (pss_cons (ps_if (PW.pt (pw_and (pt_cmpR op_eq (pe_callB cr_len (by rfl) (fr_len B) (by decide +kernel) (pa_cons (pv 0) pa_nil)) pe_int (nomark _)) (pw_and (pt_val (pe_callB call_isi (by rfl) (fr_isinstance B) (by decide +kernel) (pa_cons (pe_ix ix_seq (pv 0) pe_int (fun _ _ => rfl)) (pa_cons (pe_bltn (v := .ty "int") rfl (fr_int B) (by decide +kernel) rfl) pa_nil)))) (pw_and1 (pt_not (pt_val (pe_callB call_isi (by rfl) (fr_isinstance B) (by decide +kernel) (pa_cons (pe_ix ix_seq (pv 0) pe_int (fun _ _ => rfl)) (pa_cons (pe_bltn (v := .ty "bool") rfl (fr_bool B) (by decide +kernel) rfl) pa_nil))))))))) (pss_one (ps_ret (pe_ix ix_seq (pv 0) pe_int (fun _ _ => rfl)))) pss_nil)
  (pss_one (ps_ret (pe_un un_neg pe_int)))), fun ws μ R X h => ?_⟩
  obtain ⟨r, rfl, hR⟩ := h
  change RS _ _ [some _] _ _
  (try dsimp only [cxOf])
  wtm_at "go"
  wtm_at "ifT"
  wtm_at "go"
  exact hR

/-! _law_root_right: the root is told rightly -/
def fs__law_root_right : FS := fun ws μ R _ => ∃ n c : Int, ws = [.i n, .i c] ∧ Bd 6000 n ∧ R (.b true) μ
theorem fn__law_root_right (B : Base P w K mg base) : Fn P w K mg base "_law_root_right" 7 ["number", "count"] fs__law_root_right := by
  have F__law_call := fn__law_call B
  have F__law_whole_of := fn__law_whole_of B
  have F__law_refused := fn__law_refused B
  have F__law_rising := fn__law_rising B
  refine fn_mk (st := s__law_root_right) (gl__law_root_right B) (df__law_root_right B) sc__law_root_right (fun ws μ R X h => (by first | exact h.1 | (obtain ⟨_, rfl, _⟩ := h; rfl) | (obtain ⟨_, _, rfl, _⟩ := h; rfl) | (obtain ⟨_, _, _, rfl, _⟩ := h; rfl) | (obtain ⟨_, _, _, _, rfl, _⟩ := h; rfl) | (obtain ⟨_, _, _, _, _, rfl, _⟩ := h; rfl) | (obtain ⟨_, _, _, _, _, _, rfl, _⟩ := h; rfl) | (obtain ⟨_, _, _, _, _, _, _, rfl, _⟩ := h; rfl) | (obtain ⟨_, _, _, _, _, _, _, _, rfl, _⟩ := h; rfl))) (fun _ _ _ _ _ _ us hl => match us, hl with | [_, _], _ => rfl) fun cdv A outer s H E hr => ⟨_, (pss_cons (ps_set (i := 2) sc__law_root_right.nd rfl (Or.inl rfl) (pe_fn F__law_call hr (by decide) rfl (takes_of rfl rfl rfl rfl) (pa_cons pe_str (pa_cons (pv 0) (pa_cons (pv 1) pa_nil)))))
  (pss_cons (ps_if (pt_cmpR op_lt (pv 0) pe_int (nomark _)) (pss_one (ps_ret (pe_fn F__law_refused hr (by decide) rfl (takes_of rfl rfl rfl rfl) (pa_cons (pv 2) (pa_cons pe_str pa_nil))))) pss_nil)
  (pss_cons (ps_if (PW.pt (pw_or (pt_cmpR op_lt (pv 1) pe_int (nomark _)) (pw_or1 (pt_cmpR op_gt (pv 1) pe_int (nomark _))))) (pss_one (ps_ret (pe_fn F__law_refused hr (by decide) rfl (takes_of rfl rfl rfl rfl) (pa_cons (pv 2) (pa_cons pe_str pa_nil))))) pss_nil)
  (pss_cons (ps_set (i := 3) sc__law_root_right.nd rfl (Or.inl rfl) (pe_fn F__law_whole_of hr (by decide) rfl (takes_of rfl rfl rfl rfl) (pa_cons (pv 2) pa_nil)))
  (pss_cons (ps_if (PW.pt (pw_or (pt_cmpR op_lt (pv 3) pe_int (nomark _)) (pw_or1 (pt_cmpR op_gt (pv 3) (pv 0) (nomark _))))) (pss_one (ps_ret pe_bl)) pss_nil)
  (pss_one (ps_ret (pe_chain op_le op_lt (pe_fn F__law_rising hr (by decide) rfl (takes_of rfl rfl rfl rfl) (pa_cons (pv 3) (pa_cons (pv 1) pa_nil))) (pv 0) (pe_fn F__law_rising hr (by decide) rfl (takes_of rfl rfl rfl rfl) (pa_cons (pe_op op_add (pv 3) pe_int) (pa_cons (pv 1) pa_nil))))))))))), fun ws μ R X h => ?_⟩
  obtain ⟨n, c, rfl, hn, hR⟩ := h
  change RS _ _ [some _, some _, none, none] _ _
  (try dsimp only [cxOf])
  wtm_at "go"
  refine callF1 ⟨rfl, n, c, .inl ⟨rfl, hn.up (by decide), fun z => ?_, fun z z2 => ?_, fun z1 z2 z3 r r0 r1 r2 => ?_⟩⟩
  · wtm_at "go"
    refine rs_ifT (by wtm_at "vt") (by simpa using z) ?_
    wtm_at "go"
    exact callF1 ⟨_, rfl, hR⟩
  · wtm_at "go"
    refine rs_ifF (by wtm_at "vt") (by simpa using z) ?_
    wtm_at "go"
    refine rs_ifT (by wtm_at "vt") (by simpa using z2) ?_
    wtm_at "go"
    exact callF1 ⟨_, rfl, hR⟩
  · obtain ⟨k, rfl⟩ := Int.eq_ofNat_of_zero_le (show 0 ≤ c by omega)
    rw [Int.toNat_natCast] at r1 r2
    have hle := pow_self_le (e := k) (by omega) r0
    have hb : Bd 6000 r := hn.le (by omega)
    have hb1 : Bd 6001 (r + 1) := hb.add1 (n := 6000) ((Bd.om (i := 1) (by decide) (by decide)).up (by decide))
    wtm_at "go"
    refine rs_ifF (by wtm_at "vt") (by simpa using z1) ?_
    wtm_at "go"
    refine rs_ifF (by wtm_at "vt") (by simp; omega) ?_
    wtm_at "go"
    refine callF1 ⟨r, rfl, ?_⟩
    wtm_at "go"
    refine rs_ifF (by wtm_at "vt") (by simp; omega) ?_
    wtm_at "go"
    refine callF1 ⟨r, k, 6000, rfl, hb, by omega, by omega, ?_⟩
    wtm_at "go"
    refine ⟨fun _ => ?_, fun z => absurd (of_decide_eq_false z) (by omega)⟩
    wtm_at "go"
    refine callF1 ⟨r + 1, k, 6001, rfl, hb1, by omega, by omega, ?_⟩
    wtm_at "go"
    have e : decide (n < (r + 1) ^ k) = true := decide_eq_true r2
    rw [e]
    exact hR

/-! _law_power_right: a power is told rightly -/
def fs__law_power_right : FS := fun ws μ R _ => ∃ (st : Addr) (s : List W), ws = [.at st] ∧ μ = [(st, .lst s)] ∧ Sto s ∧ ∀ s', Sto s' → R (.b true) [(st, .lst s')]
theorem fn__law_power_right (B : Base P w K mg base) : Fn P w K mg base "_law_power_right" 8 ["store"] fs__law_power_right := by
  have F__law_number := fn__law_number B
  have F__law_take := fn__law_take B
  have F__law_refused := fn__law_refused B
  have F__law_same := fn__law_same B
  have F__law_call := fn__law_call B
  have F__law_rising := fn__law_rising B
  refine fn_mk (st := s__law_power_right) (gl__law_power_right B) (df__law_power_right B) sc__law_power_right (fun ws μ R X h => (by first | exact h.1 | (obtain ⟨_, rfl, _⟩ := h; rfl) | (obtain ⟨_, _, rfl, _⟩ := h; rfl) | (obtain ⟨_, _, _, rfl, _⟩ := h; rfl) | (obtain ⟨_, _, _, _, rfl, _⟩ := h; rfl) | (obtain ⟨_, _, _, _, _, rfl, _⟩ := h; rfl) | (obtain ⟨_, _, _, _, _, _, rfl, _⟩ := h; rfl) | (obtain ⟨_, _, _, _, _, _, _, rfl, _⟩ := h; rfl) | (obtain ⟨_, _, _, _, _, _, _, _, rfl, _⟩ := h; rfl))) (fun _ _ _ _ _ _ us hl => match us, hl with | [_], _ => rfl) fun cdv A outer s H E hr => ⟨_, (pss_cons (ps_set (i := 1) sc__law_power_right.nd rfl (Or.inl rfl) (pe_fn F__law_number hr (by decide) rfl (takes_of rfl rfl rfl rfl) (pa_cons (pv 0) pa_nil)))
  (pss_cons (ps_set (i := 2) sc__law_power_right.nd rfl (Or.inl rfl) (pe_fn F__law_take hr (by decide) rfl (takes_of rfl rfl rfl rfl) (pa_cons (pv 0) (pa_cons pe_int pa_nil))))
  (pss_cons (ps_set (i := 3) sc__law_power_right.nd rfl (Or.inl rfl) (pe_fn F__law_take hr (by decide) rfl (takes_of rfl rfl rfl rfl) (pa_cons (pv 0) (pa_cons pe_int pa_nil))))
  (pss_cons (ps_if (pt_cmpR op_eq (pv 3) pe_int (nomark _)) (pss_cons (ps_set (i := 1) sc__law_power_right.nd rfl (Or.inl rfl) (pe_op op_sub (pe_fn F__law_take hr (by decide) rfl (takes_of rfl rfl rfl rfl) (pa_cons (pv 0) (pa_cons (pe_op op_mul pe_int (pe_op op_pow pe_int pe_int)) pa_nil))) (pe_op op_pow pe_int pe_int)))
  (pss_one (ps_set (i := 2) sc__law_power_right.nd rfl (Or.inl rfl) (pe_op op_add pe_int (pe_fn F__law_take hr (by decide) rfl (takes_of rfl rfl rfl rfl) (pa_cons (pv 0) (pa_cons pe_int pa_nil))))))) pss_nil)
  (pss_cons (ps_if (pt_cmpR op_eq (pv 3) pe_int (nomark _)) (pss_cons (ps_set (i := 1) sc__law_power_right.nd rfl (Or.inl rfl) (pe_ix ix_seq (pe_lst (pa_cons (pe_op op_sub (pe_fn F__law_take hr (by decide) rfl (takes_of rfl rfl rfl rfl) (pa_cons (pv 0) (pa_cons pe_int pa_nil))) pe_int) (pa_cons (pe_op op_sub (pe_fn F__law_take hr (by decide) rfl (takes_of rfl rfl rfl rfl) (pa_cons (pv 0) (pa_cons pe_int pa_nil))) pe_int) pa_nil))) (pe_fn F__law_take hr (by decide) rfl (takes_of rfl rfl rfl rfl) (pa_cons (pv 0) (pa_cons pe_int pa_nil))) (fun _ _ => rfl)))
  (pss_one (ps_set (i := 2) sc__law_power_right.nd rfl (Or.inl rfl) (pe_op op_sub pe_int (pe_ix ix_seq (pe_lst (pa_cons pe_int (pa_cons pe_int (pa_cons (pe_fn F__law_take hr (by decide) rfl (takes_of rfl rfl rfl rfl) (pa_cons (pv 0) (pa_cons pe_int pa_nil))) pa_nil)))) (pe_fn F__law_take hr (by decide) rfl (takes_of rfl rfl rfl rfl) (pa_cons (pv 0) (pa_cons pe_int pa_nil))) (fun _ _ => rfl)))))) pss_nil)
  (pss_cons (ps_if (pt_not (pt_val (pe_fn F__law_same hr (by decide) rfl (takes_of rfl rfl rfl rfl) (pa_cons (pe_fn F__law_call hr (by decide) rfl (takes_of rfl rfl rfl rfl) (pa_cons pe_str (pa_cons (pv 1) (pa_cons (pv 2) pa_nil)))) (pa_cons (pe_tup (pa_cons pe_str (pa_cons (pe_fn F__law_rising hr (by decide) rfl (takes_of rfl rfl rfl rfl) (pa_cons (pv 1) (pa_cons (pv 2) pa_nil))) pa_nil))) pa_nil))))) (pss_one (ps_ret pe_bl)) pss_nil)
  (pss_cons (ps_if (pt_not (pt_val (pe_fn F__law_same hr (by decide) rfl (takes_of rfl rfl rfl rfl) (pa_cons (pe_fn F__law_call hr (by decide) rfl (takes_of rfl rfl rfl rfl) (pa_cons pe_str (pa_cons (pv 1) (pa_cons pe_int pa_nil)))) (pa_cons (pe_tup (pa_cons pe_str (pa_cons pe_int pa_nil))) pa_nil))))) (pss_one (ps_ret pe_bl)) pss_nil)
  (pss_cons (ps_set (i := 4) sc__law_power_right.nd rfl (Or.inl rfl) (pe_ix ix_seq (pe_lst (pa_cons (pe_un un_neg pe_int) (pa_cons pe_int (pa_cons (pe_op op_add pe_int (pe_fn F__law_take hr (by decide) rfl (takes_of rfl rfl rfl rfl) (pa_cons (pv 0) (pa_cons (pe_op op_pow pe_int pe_int) pa_nil)))) (pa_cons (pe_op op_sub (pe_un un_neg pe_int) (pe_fn F__law_take hr (by decide) rfl (takes_of rfl rfl rfl rfl) (pa_cons (pv 0) (pa_cons (pe_op op_pow pe_int pe_int) pa_nil)))) pa_nil))))) (pe_fn F__law_take hr (by decide) rfl (takes_of rfl rfl rfl rfl) (pa_cons (pv 0) (pa_cons pe_int pa_nil))) (fun _ _ => rfl)))
  (pss_one (ps_ret (pe_fn F__law_refused hr (by decide) rfl (takes_of rfl rfl rfl rfl) (pa_cons (pe_fn F__law_call hr (by decide) rfl (takes_of rfl rfl rfl rfl) (pa_cons pe_str (pa_cons (pv 1) (pa_cons (pv 4) pa_nil)))) (pa_cons pe_str pa_nil))))))))))))), fun ws μ R X h => ?_⟩
  obtain ⟨st, s, rfl, rfl, hS, hR⟩ := h
  change RS _ _ [some _, none, none, none, none] _ _
  (try dsimp only [cxOf])
  wtm_at "go"
  refine number0 hS fun b s1 hS1 hb => ?_
  wtm_at "go"
  refine take0 4 (by decide +kernel) hS1 fun n s2 hS2 n0 n1 _ => ?_
  wtm_at "go"
  refine take0 4 (by decide +kernel) hS2 fun kind s3 hS3 k0 k1 _ => ?_
  wtm_at "go"
  clear hS hS1 hS2
  refine rs_to (fun ε' μ' => ∃ (b : Int) (n m : Nat) (s4 : List W), ε' = [some (.at st), some (.i b), some (.i (n : Int)), some (.i kind), none] ∧ μ' = [(st, .lst s4)] ∧ Sto s4 ∧ Bd m b ∧ n ≤ 1000 ∧ m * n ≤ 20000) ?_ ?_
  · refine rs_ifv (by wtm_at "vt") (fun _ => ?_) (fun _ => ?_)
    · wtm_at "go"
      refine take0 42 (by decide +kernel) hS3 fun r s4 hS4 r0 r1 rb => ?_
      wtm_at "go"
      refine take0 7 (by decide +kernel) hS4 fun t s5 hS5 t0 t1 _ => ?_
      wtm_at "go"
      refine ⟨_, (13 + t).toNat, 100, s5, by rw [Int.toNat_of_nonneg (by omega)], rfl, hS5, (rb.sub (m := 42) ⟨by decide +kernel⟩).up (by decide), by omega, by omega⟩
    · wtm_at "go"
      exact ⟨b, n.toNat, 1200, s3, by rw [Int.toNat_of_nonneg n0], rfl, hS3, hb, by omega, by omega⟩
  clear hS3 hb n0 n1
  rintro ε' μ' ⟨b, n, m, s3, rfl, rfl, hS3, hb, hn, hmn⟩
  wtm_at "go"
  refine rs_to (fun ε' μ' => ∃ (b : Int) (n m : Nat) (s4 : List W), ε' = [some (.at st), some (.i b), some (.i (n : Int)), some (.i kind), none] ∧ μ' = [(st, .lst s4)] ∧ Sto s4 ∧ Bd m b ∧ n ≤ 1000 ∧ m * n ≤ 20000) ?_ ?_
  · refine rs_ifv (by wtm_at "vt") (fun _ => ?_) (fun _ => ?_)
    · wtm_at "go"
      refine re_lst ?_
      wtm_at "go"
      refine take0 11 (by decide +kernel) hS3 fun r1 s4 hS4 r10 r11 _ => ?_
      wtm_at "go"
      refine take0 11 (by decide +kernel) hS4 fun r2 s5 hS5 r20 r21 _ => ?_
      wtm_at "go"
      refine dl_f rfl (by wtm_at "sz") ?_
      wtm_at "go"
      refine take0 2 (by decide +kernel) hS5 fun r s6 hS6 r0 r3 _ => ?_
      obtain ⟨d, hd, x, rfl, hx⟩ := at_mem (P := fun d => ∃ x, d = D.int x ∧ -1000 < x ∧ x < 1000) (ds := [.int (r1 - 998), .int (r2 - 2)]) r0 r3 (by
        intro z hz
        simp only [List.mem_cons, List.not_mem_nil, or_false] at hz
        rcases hz with h | h
        · exact ⟨_, h, by omega, by omega⟩
        · exact ⟨_, h, by omega, by omega⟩)
      have hxb : Bd 10 x := ⟨by show x.natAbs < 1024; omega⟩
      clear hS3 hS4 hS5
      wtm_at "go"
      refine re_lst ?_
      wtm_at "go"
      refine take0 10 (by decide +kernel) hS6 fun r4 s7 hS7 r40 r41 _ => ?_
      wtm_at "go"
      refine dl_f rfl (by wtm_at "sz") ?_
      wtm_at "go"
      refine take0 2 (by decide +kernel) hS7 fun r5 s8 hS8 r50 r51 _ => ?_
      obtain ⟨d, hd2, y, rfl, hy⟩ := at_mem (P := fun d => ∃ x, d = D.int x ∧ 0 ≤ x ∧ x < 1000) (ds := [.int 0, .int 1, .int r4]) r50 r51 (by
        intro z hz
        simp only [List.mem_cons, List.not_mem_nil, or_false] at hz
        rcases hz with h | h | h
        · exact ⟨_, h, by omega, by omega⟩
        · exact ⟨_, h, by omega, by omega⟩
        · exact ⟨_, h, by omega, by omega⟩)
      wtm_at "go"
      exact ⟨x, (1000 - y).toNat, 10, s8, by rw [Int.toNat_of_nonneg (by omega)], rfl, hS8, hxb, by omega, by omega⟩
    · wtm_at "go"
      exact ⟨b, n, m, s3, rfl, rfl, hS3, hb, hn, hmn⟩
  clear hS3 hb hn hmn
  rintro ε' μ' ⟨b, n, m, s3, rfl, rfl, hS3, hb, hn, hmn⟩
  wtm_at "go"
  refine callF1 ⟨rfl, b, (n : Int), .inr (.inl ⟨m, rfl, hb, fun z => by omega, fun _ _ => ⟨by rw [Int.toNat_natCast]; omega, ?_⟩⟩)⟩
  rw [Int.toNat_natCast]
  wtm_at "go"
  refine callF1 ⟨b, n, m, rfl, hb, by omega, by omega, ?_⟩
  wtm_at "go"
  refine sameT rfl rfl (by show 3 ≤ 1000000; decide) ?_
  wtm_at "go"
  refine callF1 ⟨rfl, b, 0, .inr (.inl ⟨m, rfl, hb, fun z => by omega, fun _ _ => ⟨by simp, ?_⟩⟩)⟩
  wtm_at "go"
  refine sameT (by rw [show (0 : Int).toNat = 0 from rfl, Int.pow_zero]) rfl (by show 3 ≤ 1000000; decide) ?_
  wtm_at "go"
  refine re_lst ?_
  wtm_at "go"
  refine take0 100 (by decide +kernel) hS3 fun r1 s4 hS4 r10 r11 _ => ?_
  wtm_at "go"
  refine take0 100 (by decide +kernel) hS4 fun r2 s5 hS5 r20 r21 _ => ?_
  wtm_at "go"
  refine dl_f rfl (by wtm_at "sz") ?_
  wtm_at "go"
  refine take0 3 (by decide +kernel) hS5 fun r s6 hS6 r0 r3 _ => ?_
  obtain ⟨d, hd, x, rfl, hx⟩ := at_mem (P := fun d => ∃ x, d = D.int x ∧ (x < 0 ∨ x > 1000)) (ds := [.int (-1), .int 1001, .int (1002 + r1), .int (-2 - r2)]) r0 r3 (by
    intro z hz
    simp only [List.mem_cons, List.not_mem_nil, or_false] at hz
    rcases hz with h | h | h | h
    · exact ⟨_, h, by omega⟩
    · exact ⟨_, h, by omega⟩
    · exact ⟨_, h, by omega⟩
    · exact ⟨_, h, by omega⟩)
  wtm_at "go"
  refine callF1 ⟨rfl, b, x, .inr (.inl ⟨m, rfl, hb, fun z => ?_, fun _ _ => by omega⟩)⟩
  wtm_at "go"
  exact callF1 ⟨_, rfl, hR _ hS6⟩

/-! the law -/
theorem fn_law (B : Base P w K mg base) : Fn P w K mg base "law" 9 ["script"] fs_law := by
  have F__law_store := fn__law_store B
  have F__law_root_case := fn__law_root_case B
  have F__law_ceiling_right := fn__law_ceiling_right B
  have F__law_take := fn__law_take B
  have F__law_number := fn__law_number B
  have F__law_root_right := fn__law_root_right B
  have F__law_power_right := fn__law_power_right B
  refine fn_mk (st := s_law) (gl_law B) (df_law B) sc_law (fun ws μ R X h => (by first | exact h.1 | (obtain ⟨_, rfl, _⟩ := h; rfl) | (obtain ⟨_, _, rfl, _⟩ := h; rfl) | (obtain ⟨_, _, _, rfl, _⟩ := h; rfl) | (obtain ⟨_, _, _, _, rfl, _⟩ := h; rfl) | (obtain ⟨_, _, _, _, _, rfl, _⟩ := h; rfl) | (obtain ⟨_, _, _, _, _, _, rfl, _⟩ := h; rfl) | (obtain ⟨_, _, _, _, _, _, _, rfl, _⟩ := h; rfl) | (obtain ⟨_, _, _, _, _, _, _, _, rfl, _⟩ := h; rfl))) (fun _ _ _ _ _ _ us hl => match us, hl with | [_], _ => rfl) fun cdv A outer s H E hr => ⟨_, (pss_cons (ps_set (i := 1) sc_law.nd rfl (Or.inl rfl) (pe_fn F__law_store hr (by decide) rfl (takes_of rfl rfl rfl rfl) (pa_cons (pv 0) pa_nil)))
  (pss_cons (ps_set (i := 2) sc_law.nd rfl (Or.inl rfl) (pe_fn F__law_root_case hr (by decide) rfl (takes_of rfl rfl rfl rfl) (pa_cons (pv 1) pa_nil)))
  (pss_cons (ps_set (i := 3) sc_law.nd rfl (Or.inl rfl) (pe_lst (pa_cons (pv 2) (pa_cons (pe_fn F__law_root_case hr (by decide) rfl (takes_of rfl rfl rfl rfl) (pa_cons (pv 1) pa_nil)) (pa_cons (pe_fn F__law_root_case hr (by decide) rfl (takes_of rfl rfl rfl rfl) (pa_cons (pv 1) pa_nil)) (pa_cons (pe_tup (pa_cons pe_int (pa_cons pe_int pa_nil))) (pa_cons (pe_tup (pa_cons pe_int (pa_cons pe_int pa_nil))) (pa_cons (pe_tup (pa_cons pe_int (pa_cons pe_int pa_nil))) pa_nil))))))))
  (pss_cons (ps_set (i := 4) sc_law.nd rfl (Or.inl rfl) (pe_ix ix_seq (pe_lst (pa_cons pe_int (pa_cons (pe_un un_neg pe_int) (pa_cons pe_int (pa_cons pe_int (pa_cons (pe_op op_add pe_int (pe_fn F__law_take hr (by decide) rfl (takes_of rfl rfl rfl rfl) (pa_cons (pv 1) (pa_cons (pe_op op_pow pe_int pe_int) pa_nil)))) (pa_cons (pe_op op_sub (pe_un un_neg pe_int) (pe_fn F__law_take hr (by decide) rfl (takes_of rfl rfl rfl rfl) (pa_cons (pv 1) (pa_cons (pe_op op_pow pe_int pe_int) pa_nil)))) pa_nil))))))) (pe_fn F__law_take hr (by decide) rfl (takes_of rfl rfl rfl rfl) (pa_cons (pv 1) (pa_cons pe_int pa_nil))) (fun _ _ => rfl)))
  (pss_cons (ps_set (i := 5) sc_law.nd rfl (Or.inl rfl) (pe_op op_sub (pe_un un_neg pe_int) (pe_ix ix_seq (pe_lst (pa_cons pe_int (pa_cons (pe_fn F__law_take hr (by decide) rfl (takes_of rfl rfl rfl rfl) (pa_cons (pv 1) (pa_cons (pe_op op_pow pe_int pe_int) pa_nil))) pa_nil))) (pe_fn F__law_take hr (by decide) rfl (takes_of rfl rfl rfl rfl) (pa_cons (pv 1) (pa_cons pe_int pa_nil))) (fun _ _ => rfl))))
  (pss_cons (ps_set (i := 3) sc_law.nd rfl (Or.inl rfl) (pe_op op_cat (pv 3) (pe_lst (pa_cons (pe_tup (pa_cons (pe_callB cr_abs (by rfl) (fr_abs B) (by decide +kernel) (pa_cons (pe_ix ix_seq (pv 2) pe_int (fun _ _ => rfl)) pa_nil)) (pa_cons (pv 4) pa_nil))) (pa_cons (pe_tup (pa_cons (pv 5) (pa_cons (pe_ix ix_seq (pv 2) pe_int (fun _ _ => rfl)) pa_nil))) (pa_cons (pe_tup (pa_cons (pv 5) (pa_cons (pv 4) pa_nil))) (pa_cons (pe_tup (pa_cons pe_int (pa_cons pe_int pa_nil))) (pa_cons (pe_tup (pa_cons pe_int (pa_cons pe_int pa_nil))) (pa_cons (pv 2) pa_nil)))))))))
  (pss_cons (ps_for (passes_of rfl) rfl (pi_list (pe_callTy cr_listOf (by rfl) (fr_list B) (by decide +kernel) (pa_cons (pv 3) pa_nil))) (pg_name (i := 6) sc_law.nd rfl (Or.inl rfl)) (pss_one (ps_if (pt_not (pt_val (pe_fn F__law_root_right hr (by decide) rfl (takes_of rfl rfl rfl rfl) (pa_cons (pe_ix ix_seq (pv 6) pe_int (fun _ _ => rfl)) (pa_cons (pe_ix ix_seq (pv 6) pe_int (fun _ _ => rfl)) pa_nil))))) (pss_one (ps_ret pe_bl)) pss_nil)))
  (pss_cons (ps_for (passes_of rfl) rfl (pi_range1 rfl (fr_range B) (pa_cons pe_int pa_nil)) (pg_name (i := 7) sc_law.nd rfl (Or.inl rfl)) (pss_cons (ps_if (pt_not (pt_val (pe_fn F__law_power_right hr (by decide) rfl (takes_of rfl rfl rfl rfl) (pa_cons (pv 1) pa_nil)))) (pss_one (ps_ret pe_bl)) pss_nil)
  (pss_cons (ps_set (i := 8) sc_law.nd rfl (Or.inl rfl) (pe_op op_add pe_int (pe_callB cr_abs (by rfl) (fr_abs B) (by decide +kernel) (pa_cons (pe_ix ix_seq (pe_lst (pa_cons (pe_fn F__law_number hr (by decide) rfl (takes_of rfl rfl rfl rfl) (pa_cons (pv 1) pa_nil)) (pa_cons (pe_fn F__law_take hr (by decide) rfl (takes_of rfl rfl rfl rfl) (pa_cons (pv 1) (pa_cons pe_int pa_nil))) pa_nil))) (pe_fn F__law_take hr (by decide) rfl (takes_of rfl rfl rfl rfl) (pa_cons (pv 1) (pa_cons pe_int pa_nil))) (fun _ _ => rfl)) pa_nil))))
  (pss_cons (ps_set (i := 9) sc_law.nd rfl (Or.inl rfl) (pe_ix ix_seq (pe_lst (pa_cons pe_int (pa_cons pe_int (pa_cons (pe_op op_sub (pv 8) pe_int) (pa_cons (pe_fn F__law_take hr (by decide) rfl (takes_of rfl rfl rfl rfl) (pa_cons (pv 1) (pa_cons (pv 8) pa_nil))) pa_nil))))) (pe_fn F__law_take hr (by decide) rfl (takes_of rfl rfl rfl rfl) (pa_cons (pv 1) (pa_cons pe_int pa_nil))) (fun _ _ => rfl)))
  (pss_cons (ps_set (i := 10) sc_law.nd rfl (Or.inl rfl) (pe_op op_add (pe_op op_mulW (pe_fn F__law_number hr (by decide) rfl (takes_of rfl rfl rfl rfl) (pa_cons (pv 1) pa_nil)) (pv 8)) (pv 9)))
  (pss_cons (ps_if (pt_not (pt_val (pe_fn F__law_ceiling_right hr (by decide) rfl (takes_of rfl rfl rfl rfl) (pa_cons (pe_ix ix_seq (pe_lst (pa_cons pe_str (pa_cons pe_str pa_nil))) (pe_fn F__law_take hr (by decide) rfl (takes_of rfl rfl rfl rfl) (pa_cons (pv 1) (pa_cons pe_int pa_nil))) (fun _ _ => rfl)) (pa_cons (pv 10) (pa_cons (pv 8) pa_nil)))))) (pss_one (ps_ret pe_bl)) pss_nil)
  (pss_one (ps_if (pt_not (pt_val (pe_fn F__law_ceiling_right hr (by decide) rfl (takes_of rfl rfl rfl rfl) (pa_cons pe_str (pa_cons (pv 10) (pa_cons (pe_ix ix_seq (pe_lst (pa_cons pe_int (pa_cons (pe_un un_neg pe_int) (pa_cons (pe_un un_neg (pv 8)) pa_nil)))) (pe_fn F__law_take hr (by decide) rfl (takes_of rfl rfl rfl rfl) (pa_cons (pv 1) (pa_cons pe_int pa_nil))) (fun _ _ => rfl)) pa_nil)))))) (pss_one (ps_ret pe_bl)) pss_nil))))))))
  (pss_one (ps_ret (pe_fn F__law_ceiling_right hr (by decide) rfl (takes_of rfl rfl rfl rfl) (pa_cons pe_str (pa_cons (pe_fn F__law_number hr (by decide) rfl (takes_of rfl rfl rfl rfl) (pa_cons (pv 1) pa_nil)) (pa_cons pe_int pa_nil)))))))))))))), fun ws μ R X h => ?_⟩
  obtain ⟨ns, rfl, hl, rfl, hR⟩ := h
  change RS _ _ [some _, none, none, none, none, none, none, none, none, none, none] _ _
  (try dsimp only [cxOf])
  wtm_at "go"
  refine callF1 ⟨ns, rfl, hl, fun st s hS => ?_⟩
  wtm_at "go"
  refine caseF0 hS fun n1 c1 s1 hS1 h1 => ?_
  wtm_at "go"
  refine re_lst ?_
  wtm_at "go"
  refine caseF0 hS1 fun n2 c2 s2 hS2 h2 => ?_
  wtm_at "go"
  refine caseF0 hS2 fun n3 c3 s3 hS3 h3 => ?_
  wtm_at "go"
  refine dl_o (by wtm_at "sz") fun l1 => ?_
  wtm_at "go"
  refine re_lst ?_
  wtm_at "go"
  refine take1 100 (by decide +kernel) hS3 fun r1 s4 hS4 r10 r11 _ => ?_
  wtm_at "go"
  refine take1 100 (by decide +kernel) hS4 fun r2 s5 hS5 r20 r21 _ => ?_
  wtm_at "go"
  refine dl_f rfl (by wtm_at "sz") ?_
  wtm_at "go"
  refine take1 3 (by decide +kernel) hS5 fun r s6 hS6 r0 r3 _ => ?_
  obtain ⟨d, hd, far, rfl, -⟩ := at_mem (P := fun d => ∃ x, d = D.int x ∧ True) (ds := [.int 0, .int (-1), .int 65, .int 66, .int (64 + r1), .int (-1 - r2)]) r0 r3 (by
    intro z hz
    simp only [List.mem_cons, List.not_mem_nil, or_false] at hz
    rcases hz with h | h | h | h | h | h <;> exact ⟨_, h, trivial⟩)
  wtm_at "go"
  refine re_lst ?_
  wtm_at "go"
  refine take1 140 (by decide +kernel) hS6 fun r4 s7 hS7 r40 r41 hr4 => ?_
  wtm_at "go"
  refine dl_f rfl (by wtm_at "sz") ?_
  wtm_at "go"
  refine take1 2 (by decide +kernel) hS7 fun r' s8 hS8 r0' r3' _ => ?_
  obtain ⟨d, hd2, x, rfl, hx⟩ := at_mem (P := fun d => ∃ x, d = D.int x ∧ Bd 140 x) (ds := [.int 0, .int r4]) r0' r3' (by
    intro z hz
    simp only [List.mem_cons, List.not_mem_nil, or_false] at hz
    rcases hz with h | h
    · exact ⟨_, h, (Bd.om (by decide) (by decide)).up (by decide)⟩
    · exact ⟨_, h, hr4⟩)
  have hb : Bd 2000 (-1 - x) := ((Bd.om (i := -1) (by decide) (by decide)).sub hx).up (by decide)
  clear hS hS1 hS2 hS3 hS4 hS5 hS6 hS7
  wtm_at "go"
  refine re_lst ?_
  wtm_at "go"
  refine dl_o (by wtm_at "sz") fun l2 => ?_
  refine ro_cat (ka := 1) (kb := 0) (xs := [.tup [.int n1, .int c1], .tup [.int n2, .int c2], .tup [.int n3, .int c3], .tup [.int 0, .int 1], .tup [.int 0, .int 64], .tup [.int 1, .int 64]])
    (ys := [.tup [.int (n1.natAbs : Int), .int far], .tup [.int (-1 - x), .int c1], .tup [.int (-1 - x), .int far], .tup [.int 0, .int 0], .tup [.int 0, .int 65], .tup [.int n1, .int c1]]) rfl rfl (by wtm_at "sz") ?_
  have hz : ∀ k : Int, -100 < k → k < 100 → Bd 2000 k := fun k h1 h2 => (Bd.om (by omega) (by omega)).up (by decide)
  obtain ⟨ds, eds⟩ : ∃ ds : List D, ds = [.tup [.int n1, .int c1], .tup [.int n2, .int c2], .tup [.int n3, .int c3], .tup [.int 0, .int 1], .tup [.int 0, .int 64], .tup [.int 1, .int 64]] ++ [.tup [.int (n1.natAbs : Int), .int far], .tup [.int (-1 - x), .int c1], .tup [.int (-1 - x), .int far], .tup [.int 0, .int 0], .tup [.int 0, .int 65], .tup [.int n1, .int c1]] := ⟨_, rfl⟩
  have hds : ∀ d ∈ ds, ∃ n c, d = D.tup [.int n, .int c] ∧ Bd 2000 n := by
    intro z hz'
    rw [eds] at hz'
    simp only [List.cons_append, List.nil_append, List.mem_cons, List.not_mem_nil, or_false] at hz'
    rcases hz' with h | h | h | h | h | h | h | h | h | h | h | h
    · exact ⟨_, _, h, h1⟩
    · exact ⟨_, _, h, h2⟩
    · exact ⟨_, _, h, h3⟩
    · exact ⟨_, _, h, hz _ (by decide) (by decide)⟩
    · exact ⟨_, _, h, hz _ (by decide) (by decide)⟩
    · exact ⟨_, _, h, hz _ (by decide) (by decide)⟩
    · exact ⟨_, _, h, h1.le (by omega)⟩
    · exact ⟨_, _, h, hb⟩
    · exact ⟨_, _, h, hb⟩
    · exact ⟨_, _, h, hz _ (by decide) (by decide)⟩
    · exact ⟨_, _, h, hz _ (by decide) (by decide)⟩
    · exact ⟨_, _, h, h1⟩
  rw [← eds]
  clear eds
  wtm_at "go"
  refine rs_fgt 2 ?_
  change RS _ _ _ [(st, .lst s8)] _
  refine rs_to (fun ε' μ' => ∃ o8, ε' = [some (.dat (.lst (ns.map .int))), some (.at st), some (.dat (.tup [.int n1, .int c1])), some (.dat (.lst ds)), some (.i far), some (.i (-1 - x)), o8, none, none, none, none] ∧ μ' = [(st, .lst s8)]) ?_ ?_
  · refine rs_forL (fun i ε' μ' => ∃ o8, ε' = [some (.dat (.lst (ns.map .int))), some (.at st), some (.dat (.tup [.int n1, .int c1])), some (.dat (.lst ds)), some (.i far), some (.i (-1 - x)), o8, none, none, none, none] ∧ μ' = [(st, .lst s8)]) ?_
    wtm_at "go"
    refine rc_listF rfl ?_
    refine ⟨ds, rfl, ⟨_, rfl, rfl⟩, ?_, fun ε' μ' q => q⟩
    rintro i d ε' μ' hd ⟨o8, rfl, rfl⟩
    obtain ⟨n, c, rfl, hn⟩ := hds d (List.mem_of_getElem? hd)
    wtm_at "go"
    refine callF1 ⟨n, c, rfl, hn.up (by decide), ?_⟩
    wtm_at "go"
    exact ⟨_, rfl, rfl⟩
  rintro ε' μ' ⟨o8, rfl, rfl⟩
  wtm_at "go"
  refine rs_to (fun ε' μ' => ∃ (s9 : List W) (o7 o8 o9 o10 o11 : Option W), ε' = [some (.dat (.lst (ns.map .int))), some (.at st), some (.dat (.tup [.int n1, .int c1])), some (.dat (.lst ds)), some (.i far), some (.i (-1 - x)), o7, o8, o9, o10, o11] ∧ μ' = [(st, .lst s9)] ∧ Sto s9) ?_ ?_
  · refine rs_forR1 (fun i ε' μ' => ∃ (s9 : List W) (o7 o8 o9 o10 o11 : Option W), ε' = [some (.dat (.lst (ns.map .int))), some (.at st), some (.dat (.tup [.int n1, .int c1])), some (.dat (.lst ds)), some (.i far), some (.i (-1 - x)), o7, o8, o9, o10, o11] ∧ μ' = [(st, .lst s9)] ∧ Sto s9) (by wtm_at "va") (by decide) (by decide) ⟨s8, _, _, _, _, _, rfl, rfl, hS8⟩ ?_ fun ε' μ' q => q
    clear hds hS8
    rintro i ε' μ' hi ⟨s9, o7, o8', o9, o10, o11, rfl, rfl, hS9⟩
    dsimp only [List.set_cons_zero, List.set_cons_succ]
    wtm_at "go"
    refine ⟨0, st, s9, rfl, rfl, hS9, fun s10 hS10 => ?_⟩
    wtm_at "go"
    change RE _ _ _ [(st, .lst s10)] _
    refine re_lst ?_
    wtm_at "go"
    refine number0 hS10 fun q1 s11 hS11 hq1 => ?_
    wtm_at "go"
    refine take0 4 (by decide +kernel) hS11 fun q2 s12 hS12 q20 q21 _ => ?_
    wtm_at "go"
    refine dl_f rfl (by wtm_at "sz") ?_
    wtm_at "go"
    refine take0 2 (by decide +kernel) hS12 fun q3 s13 hS13 q30 q31 _ => ?_
    obtain ⟨d, hd, v, rfl, hv⟩ := at_mem (P := fun d => ∃ x, d = D.int x ∧ Bd 1200 x) (ds := [.int q1, .int q2]) q30 q31 (by
      intro z hz
      simp only [List.mem_cons, List.not_mem_nil, or_false] at hz
      rcases hz with h | h
      · exact ⟨_, h, hq1⟩
      · exact ⟨_, h, (Bd.om (by omega) (by omega)).up (by decide)⟩)
    have hvb : Bd 1300 (1 + (v.natAbs : Int)) := (Bd.add (Bd.om (i := 1) (by decide) (by decide)) (hv.le (i := (v.natAbs : Int)) (by omega))).up (by decide)
    have hv1 : 1 ≤ 1 + (v.natAbs : Int) := by omega
    clear hS9 hS10 hS11 hS12
    wtm_at "go"
    generalize 1 + (v.natAbs : Int) = dv at hvb hv1 ⊢
    refine re_lst ?_
    wtm_at "go"
    refine takeF 0 rfl hS13 (hvb.up (by decide)) fun q4 s14 hS14 q40 q41 => ?_
    wtm_at "go"
    refine dl_f rfl (by wtm_at "sz") ?_
    wtm_at "go"
    refine take0 3 (by decide +kernel) hS14 fun q5 s15 hS15 q50 q51 _ => ?_
    obtain ⟨d, hd, u, rfl, hu⟩ := at_mem (P := fun d => ∃ x, d = D.int x ∧ Bd 1400 x) (ds := [.int 0, .int 1, .int (dv - 1), .int q4]) q50 q51 (by
      intro z hz
      simp only [List.mem_cons, List.not_mem_nil, or_false] at hz
      rcases hz with h | h | h | h
      · exact ⟨_, h, (Bd.om (by decide) (by decide)).up (by decide)⟩
      · exact ⟨_, h, (Bd.om (by decide) (by decide)).up (by decide)⟩
      · exact ⟨_, h, (hvb.sub (Bd.om (by decide) (by decide))).up (by decide)⟩
      · exact ⟨_, h, (hvb.up (m := 1400) (by decide)).le (by omega)⟩)
    clear hS13 hS14
    wtm_at "go"
    refine number0 hS15 fun q6 s16 hS16 hq6 => ?_
    have hnum : Bd 4000 (q6 * dv + u) := ((hq6.mul hvb).add hu).up (by decide)
    wtm_at "go"
    generalize q6 * dv + u = num at hnum ⊢
    refine re_lst ?_
    wtm_at "go"
    refine dl_f rfl (by wtm_at "sz") ?_
    wtm_at "go"
    refine take0 2 (by decide +kernel) hS16 fun q7 s17 hS17 q70 q71 _ => ?_
    obtain ⟨d, hd, word, rfl, hw⟩ := at_mem (P := fun d => ∃ x : Str, d = D.str x ∧ (x = "named" ∨ x = "by place")) (ds := [.str "by place", .str "named"]) q70 q71 (by
      intro z hz
      simp only [List.mem_cons, List.not_mem_nil, or_false] at hz
      rcases hz with h | h
      · exact ⟨_, h, .inr rfl⟩
      · exact ⟨_, h, .inl rfl⟩)
    wtm_at "go"
    refine callF1 ⟨word, num, dv, rfl, hw, hnum.up (by decide), hvb.up (by decide), ?_⟩
    wtm_at "go"
    refine re_lst ?_
    wtm_at "go"
    refine dl_f rfl (by wtm_at "sz") ?_
    wtm_at "go"
    refine take0 3 (by decide +kernel) hS17 fun q8 s18 hS18 q80 q81 _ => ?_
    obtain ⟨d, hd, y, rfl, hy⟩ := at_mem (P := fun d => ∃ x, d = D.int x ∧ Bd 1400 x) (ds := [.int 0, .int (-1), .int (-dv)]) q80 q81 (by
      intro z hz
      simp only [List.mem_cons, List.not_mem_nil, or_false] at hz
      rcases hz with h | h | h
      · exact ⟨_, h, (Bd.om (by decide) (by decide)).up (by decide)⟩
      · exact ⟨_, h, (Bd.om (by decide) (by decide)).up (by decide)⟩
      · exact ⟨_, h, hvb.neg.up (by decide)⟩)
    wtm_at "go"
    refine callF1 ⟨"by place", num, y, rfl, .inr rfl, hnum.up (by decide), hy.up (by decide), ?_⟩
    wtm_at "go"
    exact ⟨s18, _, _, _, _, _, rfl, rfl, hS18⟩
  rintro ε' μ' ⟨s9, o7, o8, o9, o10, o11, rfl, rfl, hS9⟩
  wtm_at "go"
  refine number0 hS9 fun r5 s10 hS10 hr5 => ?_
  wtm_at "go"
  exact callF1 ⟨"named", r5, 1, rfl, .inl rfl, hr5.up (by decide), (Bd.om (i := 1) (by decide) (by decide)).up (by decide), hR _⟩

end
def loose_0 : List PySem.Str := ["root_guess", "floor_root", "raised", "ceiling", "_law_store", "_law_mixed", "_law_blend", "_law_take", "_law_pick", "_law_same", "_law_plain_keys", "_law_rising", "_law_number", "_law_call", "_law_refused", "_law_whole_of", "_law_root_right", "_law_ceiling_right", "_law_root_case", "_law_power_right", "TooGreatError", "LargeCoefficient", "TooDeep", "OutOfRange", "GREATEST_ROOT", "GREATEST_EXPONENT"]
def loose : List PySem.Str := loose_0
abbrev R : PySem.W.OpenRow := PySem.W.OpenLaw.row PySem.Challenge.rw_soontoogreat_k01_roots_powers_ceilings
abbrev hk : PySem.W.Hook := hookE 6 fa fn exs
def ob (s : PySem.W.SharedT) : Bool × He.AlD := obE 6 fa fn exs (HandSHeadRun.getT s)
theorem ob_eq (s : PySem.W.SharedT) : ob s = hk.obs s.abs := obE_eq (HandSHeadRun.getT_eq s)
theorem run (w : World) : HandSHeadRun.RunEq R (PySem.W.view R.prog [29]) hk ob 9000 loose w := by
  intro os
  kernel_rfl
end Lw
open PySem PySem.W PyProof.Rows
set_option maxRecDepth 100000 in
set_option maxHeartbeats 0 in
theorem PySem.Challenge.cw_soontoogreat_k01_roots_powers_ceilings_holds : PySem.Challenge.rw_soontoogreat_k01_roots_powers_ceilings.Holds := by
  w_on; o_law
  refine HandSHeadRun.head_any (r := OpenLaw.row PySem.Challenge.rw_soontoogreat_k01_roots_powers_ceilings) (q := view (OpenLaw.row PySem.Challenge.rw_soontoogreat_k01_roots_powers_ceilings).prog [29]) (H := Lw.hk) (ob := Lw.ob) (M := 9000) (loose := Lw.loose) (d := HandSHeadRun.topDef (OpenLaw.row PySem.Challenge.rw_soontoogreat_k01_roots_powers_ceilings).prog 29) (kwd := []) Lw.ob_eq
    (by kernel_rfl) (fun s => by kernel_rfl) Lw.run (by kernel_rfl) (by kernel_rfl) (by kernel_rfl) (by rfl) (by first | assumption | decide +kernel) (by decide +kernel) ⟨rfl, rfl, rfl, rfl, rfl, by decide +kernel⟩ ?hw ?hc
  case hw => w_witness2
  case hc =>
    refine Sn.walk_w (l := PySem.Challenge.rw_soontoogreat_k01_roots_powers_ceilings) (k := 9) rfl (by kernel_rfl) ⟨rfl, by decide, by decide⟩ ?F
    intro w mg fa h Y G hmg0
    obtain ⟨K, KX, hx, c⟩ := Y
    have hmg : mg ("law" : PySem.Str) = some (.ref fa) := by
      have e : (HandSHeadRun.topDef (OpenLaw.row PySem.Challenge.rw_soontoogreat_k01_roots_powers_ceilings).prog 29).name = ("law" : PySem.Str) := by kernel_rfl
      rw [← e]
      exact hmg0
    obtain ⟨fd, hb, hF⟩ := Sn.fn_one (Lw.fn_law (P := (PySem.Challenge.rw_soontoogreat_k01_roots_powers_ceilings).prog) (w := w) ⟨KX, G, hx, c⟩) hmg fun base kb gb => Lw.fn_law (P := (PySem.Challenge.rw_soontoogreat_k01_roots_powers_ceilings).prog) (w := w) ⟨kb, gb, hx, c⟩
    exact ⟨K, fd, KX, hb, hF⟩
