import PyProof.Rows.All
import Wide.All
import OpenK.AllK
import Wide.FinOn
import PySem.Challenge.RW_soontoogreat_k06_classes_modulo_numbers
import HandS.ForMost
import HandS.Exc
import HandS.ExcOwn
import HandS.WordsExc
import HandS.Defaults
import HandS.Wide
import HandS.Evl
import HandS.IsInst
import HandS.ExcInit
import HandS.ExcIs
import HandS.ExcField
import HandS.TryMany
import HandS.Small
import KE.KExcIs
import HandS.HeadHook1
import HandS.HeadHook2
import KE.KStateDown
import HandS.Head0
import HandS.Head1
import HandS.Head2
import HandS.HeadEnd
import HandS.WideBits
import KE.GoesEnum
import KE.GoesMore
import HandS.Walk
import HandS.Zip
import HandS.Iter
import HandS.Comp
import HandS.TupAny
import HandS.TupMul
import HandS.Flt
import HandS.Conv
import HandS.Deep
import HandS.SortInts
import KE.LtSeq
import KE.GoesZip

set_option Elab.async false
set_option linter.all false
set_option maxRecDepth 100000
set_option maxHeartbeats 4000000

/-! Sn: data trees instead of addresses: a state of slots and owned lists over a frozen part of the heap. -/
namespace Sn
open PySem L2
abbrev Ex := Evl.Ex
/-- data as trees -/
inductive D where
  | non
  | bl (b : Bool)
  | int (i : Int)
  | str (x : Str)
  | tup (xs : List D)
  | lst (xs : List D)
  | ty (n : String)
  | cls (a : Addr)
  | exc (a : Addr) (d : Option Addr) (fs : List (Str × D))
/-- what a name holds: data, or a list that may still change -/
inductive W where
  | dat (d : D)
  | at (l : Addr)
abbrev W.i (n : Int) : W := .dat (.int n)
abbrev W.b (n : Bool) : W := .dat (.bl n)
abbrev W.n : W := .dat .non
abbrev W.s (x : Str) : W := .dat (.str x)
mutual
inductive Dr (K : PySem.W.Frag) (G : Hp) : V → D → Prop
  | non : Dr K G .non .non
  | bl (b : Bool) : Dr K G (.bl b) (.bl b)
  | int (i : Int) : Dr K G (.int i) (.int i)
  | str (x : Str) : Dr K G (.str x) (.str x)
  | ty (n : String) : Dr K G (.ty n) (.ty n)
  | cls (a : Addr) : Dr K G (.ref a) (.cls a)
  | tup {a : Addr} {xs : List V} {ds : List D} : SqT K G a xs → DrA K G xs ds → Dr K G (.ref a) (.tup ds)
  | lst {a : Addr} {xs : List V} {ds : List D} : SqL K G a xs → DrA K G xs ds → Dr K G (.ref a) (.lst ds)
  | exc0 (a : Addr) : Dr K G (.ref a) (.exc a none [])
  | exc1 (a : Addr) {dd : Addr} {vfs : List (Str × V)} {fs : List (Str × D)} : G dd = some (.xd vfs) → DrF K G vfs fs → Dr K G (.ref a) (.exc a (some dd) fs)
inductive DrF (K : PySem.W.Frag) (G : Hp) : List (Str × V) → List (Str × D) → Prop
  | nil : DrF K G [] []
  | cons {x : Str} {v : V} {d : D} {vs : List (Str × V)} {ds : List (Str × D)} : Dr K G v d → DrF K G vs ds → DrF K G ((x, v) :: vs) ((x, d) :: ds)
inductive DrA (K : PySem.W.Frag) (G : Hp) : List V → List D → Prop
  | nil : DrA K G [] []
  | cons {v : V} {d : D} {vs : List V} {ds : List D} : Dr K G v d → DrA K G vs ds → DrA K G (v :: vs) (d :: ds)
end
section
variable {K : PySem.W.Frag} {G G' H H' : Hp}
mutual
theorem Dr.mono (e : Ex G G') : ∀ (d : D) (v : V), Dr K G v d → Dr K G' v d
  | .non, _, h => by cases h; exact .non
  | .bl _, _, h => by cases h; exact .bl _
  | .int _, _, h => by cases h; exact .int _
  | .str _, _, h => by cases h; exact .str _
  | .ty _, _, h => by cases h; exact .ty _
  | .cls _, _, h => by cases h; exact .cls _
  | .tup ds, _, h => by
    cases h with
    | tup hs ha => exact .tup (Evl.ex_t e hs) (DrA.mono e ds _ ha)
  | .lst ds, _, h => by
    cases h with
    | lst hs ha => exact .lst (Evl.ex_l e hs) (DrA.mono e ds _ ha)
  | .exc a d fs, _, h => by
    cases h with
    | exc0 => exact .exc0 a
    | exc1 _ h1 h2 => exact .exc1 a (e _ _ h1) (DrF.mono e fs _ h2)
theorem DrF.mono (e : Ex G G') : ∀ (ds : List (Str × D)) (vs : List (Str × V)), DrF K G vs ds → DrF K G' vs ds
  | [], _, h => by cases h; exact .nil
  | (x, d) :: ds, _, h => by
    cases h with
    | cons h1 h2 => exact .cons (Dr.mono e d _ h1) (DrF.mono e ds _ h2)
theorem DrA.mono (e : Ex G G') : ∀ (ds : List D) (vs : List V), DrA K G vs ds → DrA K G' vs ds
  | [], _, h => by cases h; exact .nil
  | d :: ds, _, h => by
    cases h with
    | cons h1 h2 => exact .cons (Dr.mono e d _ h1) (DrA.mono e ds _ h2)
end
theorem Dr.up {v : V} {d : D} (h : Dr K G v d) (e : Ex G G') : Dr K G' v d := Dr.mono e d v h
theorem DrA.up {v : List V} {d : List D} (h : DrA K G v d) (e : Ex G G') : DrA K G' v d := DrA.mono e d v h
theorem DrA.length : ∀ {vs : List V} {ds : List D}, DrA K G vs ds → vs.length = ds.length
  | _, _, .nil => rfl
  | _, _, .cons _ t => by rw [List.length_cons, List.length_cons, DrA.length t]
theorem DrA.get : ∀ {vs : List V} {ds : List D} {i : Nat} {d : D}, DrA K G vs ds → ds[i]? = some d → ∃ v, vs[i]? = some v ∧ Dr K G v d
  | _, _, _, _, .nil, e => by simp at e
  | _, _, 0, _, .cons r _, e => by simp at e; subst e; exact ⟨_, rfl, r⟩
  | _, _, i + 1, _, .cons _ t, e => by
    obtain ⟨v, h1, h2⟩ := DrA.get (i := i) t (by simpa using e)
    exact ⟨v, by simpa using h1, h2⟩
theorem DrA.get' : ∀ {vs : List V} {ds : List D} {i : Nat} {v : V}, DrA K G vs ds → vs[i]? = some v → ∃ d, ds[i]? = some d ∧ Dr K G v d
  | _, _, _, _, .nil, e => by simp at e
  | _, _, 0, _, .cons r _, e => by simp at e; subst e; exact ⟨_, rfl, r⟩
  | _, _, i + 1, _, .cons _ t, e => by
    obtain ⟨v, h1, h2⟩ := DrA.get' (i := i) t (by simpa using e)
    exact ⟨v, by simpa using h1, h2⟩
def Wr (K : PySem.W.Frag) (G : Hp) : V → W → Prop
  | v, .dat d => Dr K G v d
  | v, .at l => v = .ref l
abbrev WrA (K : PySem.W.Frag) (G : Hp) : List V → List W → Prop := Paired (Wr K G)
theorem Wr.up {v : V} {w : W} (h : Wr K G v w) (e : Ex G G') : Wr K G' v w := by
  cases w with
  | dat d => exact Dr.up h e
  | «at» l => exact h
theorem WrA.up {v : List V} {w : List W} (h : WrA K G v w) (e : Ex G G') : WrA K G' v w := Paired.mapP h fun _ _ z => z.up e
theorem WrA.get : ∀ {vs : List V} {ds : List W} {i : Nat} {d : W}, WrA K G vs ds → ds[i]? = some d → ∃ v, vs[i]? = some v ∧ Wr K G v d
  | _, _, _, _, .nil, e => by simp at e
  | _, _, 0, _, .cons r _, e => by simp at e; subst e; exact ⟨_, rfl, r⟩
  | _, _, i + 1, _, .cons _ t, e => by
    obtain ⟨v, h1, h2⟩ := WrA.get (i := i) t (by simpa using e)
    exact ⟨v, by simpa using h1, h2⟩
theorem WrA.set {v : V} {w : W} (r : Wr K G v w) : ∀ {vs : List V} {ws : List W} (i : Nat), WrA K G vs ws → WrA K G (vs.set i v) (ws.set i w)
  | _, _, _, .nil => .nil
  | _, _, 0, .cons _ t => .cons r t
  | _, _, i + 1, .cons q t => .cons q (WrA.set r i t)
theorem WrA.snoc {v : V} {w : W} (r : Wr K G v w) : ∀ {vs : List V} {ws : List W}, WrA K G vs ws → WrA K G (vs ++ [v]) (ws ++ [w])
  | _, _, .nil => .cons r .nil
  | _, _, .cons q t => .cons q (WrA.snoc r t)
theorem WrA.dropLast : ∀ {vs : List V} {ws : List W}, WrA K G vs ws → WrA K G vs.dropLast ws.dropLast
  | _, _, .nil => .nil
  | _, _, .cons q .nil => .nil
  | _, _, .cons q (.cons q2 t) => .cons q (WrA.dropLast (.cons q2 t))
theorem WrA.dats : ∀ {vs : List V} {ds : List D}, WrA K G vs (ds.map .dat) → DrA K G vs ds
  | [], [], _ => .nil
  | _ :: _, [], h => nomatch h
  | [], _ :: _, h => nomatch h
  | _ :: _, _ :: _, .cons r t => .cons r (WrA.dats t)
theorem DrA.ws : ∀ {vs : List V} {ds : List D}, DrA K G vs ds → WrA K G vs (ds.map .dat)
  | _, _, .nil => .nil
  | _, _, .cons r t => .cons r (DrA.ws t)
end
/-- what an owned object holds -/
inductive HC where
  | lst (ws : List W)
def HCr (K : PySem.W.Frag) (G : Hp) : HO → HC → Prop
  | .lst xs, .lst ws => WrA K G xs ws
  | _, _ => False
theorem HCr.up {K : PySem.W.Frag} {G G' : Hp} {o : HO} {c : HC} (h : HCr K G o c) (e : Ex G G') : HCr K G' o c := by
  cases c with
  | lst ws => cases o with
    | lst xs => exact WrA.up h e
    | _ => cases h
theorem HCr.lst {K : PySem.W.Frag} {G : Hp} {o : HO} {ws : List W} (h : HCr K G o (.lst ws)) : ∃ xs, o = .lst xs ∧ WrA K G xs ws := by
  cases o with
  | lst xs => exact ⟨xs, rfl, h⟩
  | _ => cases h
abbrev Mu := List (Addr × HC)
abbrev Mu.ad (μ : Mu) : List Addr := μ.map (·.1)
/-- G is frozen within H; the owned objects stand in H, outside of G -/
structure Hold (K : PySem.W.Frag) (G H : Hp) (μ : Mu) : Prop where
  gh : Ex G H
  nd : μ.ad.Nodup
  at_ : ∀ p ∈ μ, G p.1 = none ∧ ∃ o, H p.1 = some o ∧ HCr K G o p.2
/-- from (μ0, G0, H0) to (G, H, μ) -/
structure Since (μ0 : Mu) (G0 H0 G H : Hp) (μ : Mu) : Prop where
  gg : Ex G0 G
  keep : ∀ a o, H0 a = some o → a ∉ μ0.ad → H a = some o
  there : ∀ a, H0 a ≠ none → H a ≠ none
  new : ∀ a, H0 a ≠ none → a ∉ μ0.ad → G a = G0 a
  own : ∀ p ∈ μ, p.1 ∈ μ0.ad ∨ H0 p.1 = none
theorem Since.refl (μ : Mu) (G H : Hp) : Since μ G H G H μ := ⟨Evl.Ex.refl G, fun _ _ h _ => h, fun _ h => h, fun _ _ _ => rfl, fun p hp => .inl (List.mem_map_of_mem hp)⟩
theorem Since.trans {μ0 μ1 μ2 : Mu} {G0 H0 G1 H1 G2 H2 : Hp} (a : Since μ0 G0 H0 G1 H1 μ1) (b : Since μ1 G1 H1 G2 H2 μ2) : Since μ0 G0 H0 G2 H2 μ2 where
  gg := a.gg.trans b.gg
  keep := fun x o h n => by
    have h1 := a.keep x o h n
    refine b.keep x o h1 fun m => ?_
    obtain ⟨p, hp, e⟩ := List.mem_map.mp m
    rcases a.own p hp with z | z
    · rw [e] at z; exact n z
    · rw [e, h] at z; cases z
  there := fun x h => b.there x (a.there x h)
  new := fun x h n => (b.new x (a.there x h) fun m => by
    obtain ⟨p, hp, e⟩ := List.mem_map.mp m
    rcases a.own p hp with z | z
    · rw [e] at z; exact n z
    · rw [e] at z; exact h z).trans (a.new x h n)
  own := fun p hp => by
    rcases b.own p hp with z | z
    · obtain ⟨q, hq, e⟩ := List.mem_map.mp z
      have := a.own q hq
      rw [e] at this
      exact this
    · right
      cases q : H0 p.1 with
      | none => rfl
      | some o => exact absurd z (a.there p.1 (by rw [q]; simp))
abbrev Ep := List (Option W)
/-- what stands around: the written part, what is wished of an exception, what is promised of it -/
structure En where
  K : PySem.W.Frag
  W : WX
  χ : Ep → Value → List (Str × D) → Mu → Prop
structure Slots (K : PySem.W.Frag) (G : Hp) (σ : L2.St) (ε : Ep) : Prop where
  len : σ.length = ε.length
  at_ : ∀ (i : Nat) (w : W), ε[i]? = some (some w) → ∃ v, σ[i]? = some (some v) ∧ Wr K G v w
theorem Slots.up {K : PySem.W.Frag} {G G' : Hp} {σ : L2.St} {ε : Ep} (h : Slots K G σ ε) (e : Ex G G') : Slots K G' σ ε := ⟨h.len, fun i w hw => let ⟨v, h1, h2⟩ := h.at_ i w hw; ⟨v, h1, h2.up e⟩⟩
theorem Slots.set {K : PySem.W.Frag} {G : Hp} {σ : L2.St} {ε : Ep} {v : V} {w : W} (h : Slots K G σ ε) (i : Nat) (r : Wr K G v w) : Slots K G (σ.set i (some v)) (ε.set i (some w)) := by
  refine ⟨by rw [List.length_set, List.length_set, h.len], fun j u hu => ?_⟩
  by_cases hj : i = j
  · subst hj
    rw [List.getElem?_set] at hu ⊢
    rw [if_pos rfl] at hu ⊢
    by_cases hl : i < ε.length
    · rw [if_pos hl] at hu
      rw [if_pos (by rw [h.len]; exact hl)]
      cases hu
      exact ⟨v, rfl, r⟩
    · rw [if_neg hl] at hu
      cases hu
  · rw [List.getElem?_set_ne hj] at hu ⊢
    exact h.at_ j u hu
theorem Slots.unset {K : PySem.W.Frag} {G : Hp} {σ : L2.St} {ε : Ep} (h : Slots K G σ ε) (i : Nat) : Slots K G (σ.set i none) (ε.set i none) := by
  refine ⟨by rw [List.length_set, List.length_set, h.len], fun j u hu => ?_⟩
  by_cases hj : i = j
  · subst hj
    rw [List.getElem?_set, if_pos rfl] at hu
    split at hu <;> cases hu
  · rw [List.getElem?_set_ne hj] at hu ⊢
    exact h.at_ j u hu
structure St (K : PySem.W.Frag) (σ : L2.St) (ε : Ep) (G H : Hp) (μ : Mu) : Prop where
  hold : Hold K G H μ
  slots : Slots K G σ ε
/-- the same slots later -/
theorem St.to {K : PySem.W.Frag} {σ : L2.St} {ε : Ep} {G H G' H' : Hp} {μ μ' : Mu} (C : St K σ ε G H μ) (h : Hold K G' H' μ') (s : Since μ G H G' H' μ') : St K σ ε G' H' μ' := ⟨h, C.slots.up s.gg⟩
/-- the own dict of an exception and its fields; the dict is newer than H0 -/
def ExAt (K : PySem.W.Frag) (H0 G H : Hp) (d : Option Addr) (fs : List (Str × D)) : Prop :=
  (d = none ∧ fs = []) ∨ ∃ dd vfs, d = some dd ∧ H0 dd = none ∧ H dd = some (.xd vfs) ∧ DrF K G vfs fs
theorem ExAt.back {K : PySem.W.Frag} {μ μ1 : Mu} {G0 H0 G1 H1 G H : Hp} {d : Option Addr} {fs : List (Str × D)} (s : Since μ G0 H0 G1 H1 μ1) (h : ExAt K H1 G H d fs) : ExAt K H0 G H d fs := by
  rcases h with h | ⟨dd, vfs, h1, h2, h3⟩
  · exact .inl h
  · refine .inr ⟨dd, vfs, h1, ?_, h3⟩
    cases q : H0 dd with
    | none => rfl
    | some o => exact absurd h2 (s.there dd (by rw [q]; simp))
/-- the wish is met by what is promised, from here on -/
def XOk (E : En) (μ : Mu) (G H : Hp) : Prop := ∀ σ ε G' H' μ' cls d fs, St E.K σ ε G' H' μ' → Since μ G H G' H' μ' → ExAt E.K H G' H' d fs → E.χ ε cls fs μ' → E.W cls d σ H'
theorem XOk.to {E : En} {μ μ1 : Mu} {G H G1 H1 : Hp} (x : XOk E μ G H) (s : Since μ G H G1 H1 μ1) : XOk E μ1 G1 H1 := fun σ ε G' H' μ' cls d fs S s' e c => x σ ε G' H' μ' cls d fs S (s.trans s') (e.back s) c
/-! ### readings at the level of data -/
/-- an expression of the value w that leaves all as it is -/
def VE (E : En) (te : TE) (ε : Ep) (μ : Mu) (w : W) : Prop := ∀ σ G H, St E.K σ ε G H μ → ∀ Q : VK, (∀ v, Wr E.K G v w → Q v H) → te σ H Q
/-- a test likewise -/
def VT (E : En) (tt : TT) (ε : Ep) (μ : Mu) (b : Bool) : Prop := ∀ σ G H, St E.K σ ε G H μ → ∀ Q : Bool → Hp → Prop, Q b H → tt σ H Q
def VA (E : En) (ta : TA) (ε : Ep) (μ : Mu) (ws : List W) : Prop := ∀ σ G H, St E.K σ ε G H μ → ∀ Q : List V → Hp → Prop, (∀ vs, WrA E.K G vs ws → Q vs H) → ta σ H Q
/-- an operation on values that are there, a call on values -/
def VO (E : En) (r : R2) (w1 w2 : W) (μ : Mu) (w : W) : Prop := ∀ G H, Hold E.K G H μ → ∀ v1 v2, Wr E.K G v1 w1 → Wr E.K G v2 w2 → ∀ Q : VK, (∀ v, Wr E.K G v w → Q v H) → r v1 v2 H Q
def VC (E : En) (r : List V → Hp → VK → Prop) (ws : List W) (μ : Mu) (w : W) : Prop := ∀ G H, Hold E.K G H μ → ∀ vs, WrA E.K G vs ws → ∀ Q : VK, (∀ v, Wr E.K G v w → Q v H) → r vs H Q
/-- in general: it may lay objects, change the owned ones, raise -/
def RE (E : En) (te : TE) (ε : Ep) (μ : Mu) (Ψ : W → Mu → Prop) : Prop := ∀ σ G H, St E.K σ ε G H μ → XOk E μ G H → ∀ Q : VK, (∀ v w G' H' μ', Hold E.K G' H' μ' → Since μ G H G' H' μ' → Wr E.K G' v w → Ψ w μ' → Q v H') → te σ H Q
def RT (E : En) (tt : TT) (ε : Ep) (μ : Mu) (Ψ : Bool → Mu → Prop) : Prop := ∀ σ G H, St E.K σ ε G H μ → XOk E μ G H → ∀ Q : Bool → Hp → Prop, (∀ b G' H' μ', Hold E.K G' H' μ' → Since μ G H G' H' μ' → Ψ b μ' → Q b H') → tt σ H Q
def RA (E : En) (ta : TA) (ε : Ep) (μ : Mu) (Ψ : List W → Mu → Prop) : Prop := ∀ σ G H, St E.K σ ε G H μ → XOk E μ G H → ∀ Q : List V → Hp → Prop, (∀ vs ws G' H' μ', Hold E.K G' H' μ' → Since μ G H G' H' μ' → WrA E.K G' vs ws → Ψ ws μ' → Q vs H') → ta σ H Q
def RO (E : En) (r : R2) (w1 w2 : W) (μ : Mu) (Ψ : W → Mu → Prop) : Prop := ∀ G H, Hold E.K G H μ → ∀ v1 v2, Wr E.K G v1 w1 → Wr E.K G v2 w2 → ∀ Q : VK, (∀ v w G' H' μ', Hold E.K G' H' μ' → Since μ G H G' H' μ' → Wr E.K G' v w → Ψ w μ' → Q v H') → r v1 v2 H Q
def RC (E : En) (r : List V → Hp → VK → Prop) (ws : List W) (μ : Mu) (Ψ : W → Mu → Prop) : Prop := ∀ G H, Hold E.K G H μ → ∀ vs, WrA E.K G vs ws → ∀ Q : VK, (∀ v w G' H' μ', Hold E.K G' H' μ' → Since μ G H G' H' μ' → Wr E.K G' v w → Ψ w μ' → Q v H') → r vs H Q
/-- what is wanted behind a statement -/
structure Fi where
  nx : Ep → Mu → Prop
  rt : W → Mu → Prop
  bk : Ep → Mu → Prop := fun _ _ => False
  ct : Ep → Mu → Prop := fun _ _ => False
structure Ties (E : En) (μ : Mu) (G H : Hp) (Φ : Fi) (D : Ends) : Prop where
  nx : ∀ σ' ε' G' H' μ', St E.K σ' ε' G' H' μ' → Since μ G H G' H' μ' → Φ.nx ε' μ' → D.nx σ' H'
  rt : ∀ v w G' H' μ', Hold E.K G' H' μ' → Since μ G H G' H' μ' → Wr E.K G' v w → Φ.rt w μ' → D.rt v H'
  bk : ∀ σ' ε' G' H' μ', St E.K σ' ε' G' H' μ' → Since μ G H G' H' μ' → Φ.bk ε' μ' → D.bk σ' H'
  ct : ∀ σ' ε' G' H' μ', St E.K σ' ε' G' H' μ' → Since μ G H G' H' μ' → Φ.ct ε' μ' → D.ct σ' H'
theorem Ties.to {E : En} {μ μ1 : Mu} {G H G1 H1 : Hp} {Φ : Fi} {D : Ends} (t : Ties E μ G H Φ D) (s : Since μ G H G1 H1 μ1) : Ties E μ1 G1 H1 Φ D :=
  ⟨fun σ' ε' G' H' μ' S s' => t.nx σ' ε' G' H' μ' S (s.trans s'), fun v w G' H' μ' S s' => t.rt v w G' H' μ' S (s.trans s'), fun σ' ε' G' H' μ' S s' => t.bk σ' ε' G' H' μ' S (s.trans s'), fun σ' ε' G' H' μ' S s' => t.ct σ' ε' G' H' μ' S (s.trans s')⟩
def RS (E : En) (ts : TS) (ε : Ep) (μ : Mu) (Φ : Fi) : Prop := ∀ σ G H, St E.K σ ε G H μ → XOk E μ G H → ∀ D : Ends, Ties E μ G H Φ D → ts D σ H
def RG (E : En) (g : TG) (w : W) (ε : Ep) (μ : Mu) (Ψ : Ep → Mu → Prop) : Prop := ∀ σ G H, St E.K σ ε G H μ → ∀ v, Wr E.K G v w → ∀ Q : L2.St → Hp → Prop, (∀ σ' ε' G' H' μ', St E.K σ' ε' G' H' μ' → Since μ G H G' H' μ' → Ψ ε' μ' → Q σ' H') → g v σ H Q
def RGs (E : En) (g : TGs) (ws : List W) (ε : Ep) (μ : Mu) (Ψ : Ep → Mu → Prop) : Prop := ∀ σ G H, St E.K σ ε G H μ → ∀ vs, WrA E.K G vs ws → ∀ Q : L2.St → Hp → Prop, (∀ σ' ε' G' H' μ', St E.K σ' ε' G' H' μ' → Since μ G H G' H' μ' → Ψ ε' μ' → Q σ' H') → g vs σ H Q
section
variable {E : En} {te ta tb : TE} {tt t u : TT} {tA tr : TA} {ε : Ep} {μ : Mu} {w w1 w2 : W} {ws : List W} {b c : Bool} {r : R2} {Ψ : W → Mu → Prop}
/-! #### values -/
theorem ve_var {i : Nat} (h : ε[i]? = some (some w)) : VE E (tVar i) ε μ w := fun σ G H C Q q => by
  obtain ⟨v, h1, h2⟩ := C.slots.at_ i w h
  exact ⟨v, h1, q v h2⟩
theorem ve_int {i : Int} : VE E (tC (.int i)) ε μ (.i i) := fun _ _ _ _ _ q => q _ (.int i)
theorem ve_bl {i : Bool} : VE E (tC (.bl i)) ε μ (.b i) := fun _ _ _ _ _ q => q _ (.bl i)
theorem ve_str {i : Str} : VE E (tC (.str i)) ε μ (.s i) := fun _ _ _ _ _ q => q _ (.str i)
theorem ve_non : VE E (tC .non) ε μ .n := fun _ _ _ _ _ q => q _ .non
theorem ve_ty {n : String} : VE E (tC (.ty n)) ε μ (.dat (.ty n)) := fun _ _ _ _ _ q => q _ (.ty n)
theorem ve_op (ha : VE E ta ε μ w1) (hb : VE E tb ε μ w2) (hr : VO E r w1 w2 μ w) : VE E (tOp r ta tb) ε μ w := fun σ G H C Q q =>
  ha σ G H C _ fun v1 r1 => hb σ G H C _ fun v2 r2 => hr G H C.hold v1 v2 r1 r2 Q q
theorem ve_un {r : V → Hp → VK → Prop} (ha : VE E ta ε μ w1) (hr : VO E (fun x _ H Q => r x H Q) w1 .n μ w) : VE E (tUn r ta) ε μ w := fun σ G H C Q q =>
  ha σ G H C _ fun v1 r1 => hr G H C.hold v1 .non r1 .non Q q
theorem ve_cb {r : List V → Hp → VK → Prop} (ha : VA E tA ε μ ws) (hr : VC E r ws μ w) : VE E (tCB r tA) ε μ w := fun σ G H C Q q =>
  ha σ G H C _ fun vs rs => hr G H C.hold vs rs Q q
theorem va_nil : VA E tNil ε μ [] := fun _ _ _ _ _ q => q [] .nil
theorem va_cons (ha : VE E ta ε μ w) (hr : VA E tr ε μ ws) : VA E (tCons ta tr) ε μ (w :: ws) := fun σ G H C _ q =>
  ha σ G H C _ fun v r1 => hr σ G H C _ fun vs r2 => q _ (.cons r1 r2)
theorem ve_if {b : Bool} (h : VT E tt ε μ b) (h1 : b = true → VE E ta ε μ w) (h2 : b = false → VE E tb ε μ w) : VE E (tIf tt ta tb) ε μ w := fun σ G H C Q q => h σ G H C _ (by
  cases b with
  | true => exact h1 rfl σ G H C Q q
  | false => exact h2 rfl σ G H C Q q)
theorem ve_andV {a b : Bool} (h1 : VE E ta ε μ (.b a)) (h2 : a = true → VE E tb ε μ (.b b)) : VE E (tAndV ta tb) ε μ (.b (a && b)) := fun σ G H C Q q => h1 σ G H C _ fun v r => by
  cases r
  refine ⟨a, rfl, ?_⟩
  cases a with
  | true => exact h2 rfl σ G H C Q q
  | false => exact q _ (Dr.bl _)
theorem ve_orV {a b : Bool} (h1 : VE E ta ε μ (.b a)) (h2 : a = false → VE E tb ε μ (.b b)) : VE E (tOrV ta tb) ε μ (.b (a || b)) := fun σ G H C Q q => h1 σ G H C _ fun v r => by
  cases r
  refine ⟨a, rfl, ?_⟩
  cases a with
  | false => exact h2 rfl σ G H C Q q
  | true => exact q _ (Dr.bl _)
theorem ve_notV {a : Bool} (h1 : VE E ta ε μ (.b a)) : VE E (tNotV ta) ε μ (.b (!a)) := fun σ G H C Q q => h1 σ G H C _ fun v r => by
  cases r
  exact ⟨a, rfl, q _ (Dr.bl _)⟩
theorem ve_is {w' : W} (h : VE E te ε μ w) (e : w = w') : VE E te ε μ w' := e ▸ h
/-! #### tests -/
theorem vt_test (h : VE E te ε μ (.b b)) : VT E (tTest te) ε μ b := fun σ G H C Q q => h σ G H C _ fun v r => by cases r; exact ⟨b, rfl, q⟩
theorem vt_B (h : VE E te ε μ (.b b)) : VT E (tB te) ε μ b := fun σ G H C Q q => h σ G H C _ fun v r => by cases r; exact ⟨b, rfl, q⟩
theorem vt_and (h1 : VT E t ε μ b) (h2 : b = true → VT E u ε μ c) : VT E (tAnd t u) ε μ (b && c) := fun σ G H C Q q => h1 σ G H C _ (by
  cases b with
  | true => exact h2 rfl σ G H C Q q
  | false => exact q)
theorem vt_or (h1 : VT E t ε μ b) (h2 : b = false → VT E u ε μ c) : VT E (tOr t u) ε μ (b || c) := fun σ G H C Q q => h1 σ G H C _ (by
  cases b with
  | false => exact h2 rfl σ G H C Q q
  | true => exact q)
theorem vt_not (h1 : VT E t ε μ b) : VT E (tNot t) ε μ (!b) := fun σ G H C Q q => h1 σ G H C _ q
theorem vt_is (h : VT E t ε μ b) (e : b = c) : VT E t ε μ c := e ▸ h
/-! #### expressions in general -/
theorem re_v (h : VE E te ε μ w) (q : Ψ w μ) : RE E te ε μ Ψ := fun σ G H C _ Q k => h σ G H C Q fun v r => k v w G H μ C.hold (.refl μ G H) r q
theorem re_op (h : RE E ta ε μ fun w1 μ1 => RE E tb ε μ1 fun w2 μ2 => RO E r w1 w2 μ2 Ψ) : RE E (tOp r ta tb) ε μ Ψ := fun σ G H C X Q k =>
  h σ G H C X _ fun v1 w1 G1 H1 μ1 C1 e1 r1 h1 => h1 σ G1 H1 (C.to C1 e1) (X.to e1) _ fun v2 w2 G2 H2 μ2 C2 e2 r2 h2 => h2 G2 H2 C2 v1 v2 (r1.up e2.gg) r2 Q fun v w G3 H3 μ3 C3 e3 r3 q => k v w G3 H3 μ3 C3 ((e1.trans e2).trans e3) r3 q
theorem re_un {r : V → Hp → VK → Prop} (h : RE E ta ε μ fun w1 μ1 => RO E (fun x _ H Q => r x H Q) w1 .n μ1 Ψ) : RE E (tUn r ta) ε μ Ψ := fun σ G H C X Q k =>
  h σ G H C X _ fun v1 w1 G1 H1 μ1 C1 e1 r1 h1 => h1 G1 H1 C1 v1 .non r1 .non Q fun v w G3 H3 μ3 C3 e3 r3 q => k v w G3 H3 μ3 C3 (e1.trans e3) r3 q
theorem ro_v (h : VO E r w1 w2 μ w) (q : Ψ w μ) : RO E r w1 w2 μ Ψ := fun G H C v1 v2 r1 r2 Q k => h G H C v1 v2 r1 r2 Q fun v rv => k v w G H μ C (.refl μ G H) rv q
theorem rc_v {r : List V → Hp → VK → Prop} (h : VC E r ws μ w) (q : Ψ w μ) : RC E r ws μ Ψ := fun G H C vs rs Q k => h G H C vs rs Q fun v rv => k v w G H μ C (.refl μ G H) rv q
theorem re_cb {r : List V → Hp → VK → Prop} (h : RA E tA ε μ fun ws μ1 => RC E r ws μ1 Ψ) : RE E (tCB r tA) ε μ Ψ := fun σ G H C X Q k =>
  h σ G H C X _ fun vs ws G1 H1 μ1 C1 e1 r1 h1 => h1 G1 H1 C1 vs r1 Q fun v w G3 H3 μ3 C3 e3 r3 q => k v w G3 H3 μ3 C3 (e1.trans e3) r3 q
theorem ra_nil {Ψ : List W → Mu → Prop} (h : Ψ [] μ) : RA E tNil ε μ Ψ := fun σ G H C X Q k => k [] [] G H μ C.hold (.refl μ G H) .nil h
theorem ra_cons {Ψ : List W → Mu → Prop} (h : RE E ta ε μ fun w1 μ1 => RA E tr ε μ1 fun ws μ2 => Ψ (w1 :: ws) μ2) : RA E (tCons ta tr) ε μ Ψ := fun σ G H C X Q k =>
  h σ G H C X _ fun v1 w1 G1 H1 μ1 C1 e1 r1 h1 => h1 σ G1 H1 (C.to C1 e1) (X.to e1) _ fun vs ws G2 H2 μ2 C2 e2 r2 h2 => k _ _ G2 H2 μ2 C2 (e1.trans e2) (.cons (r1.up e2.gg) r2) h2
theorem ra_v {Ψ : List W → Mu → Prop} (h : VA E tA ε μ ws) (q : Ψ ws μ) : RA E tA ε μ Ψ := fun σ G H C X Q k => h σ G H C Q fun vs r => k vs ws G H μ C.hold (.refl μ G H) r q
theorem rt_v {Ψ : Bool → Mu → Prop} (h : VT E tt ε μ b) (q : Ψ b μ) : RT E tt ε μ Ψ := fun σ G H C X Q k => h σ G H C Q (k b G H μ C.hold (.refl μ G H) q)
def TB (w : W) (μ : Mu) (Ψ : Bool → Mu → Prop) : Prop := ∃ b, w = .b b ∧ Ψ b μ
theorem tb_b {Ψ : Bool → Mu → Prop} (h : Ψ b μ) : TB (.b b) μ Ψ := ⟨b, rfl, h⟩
theorem rt_test {Ψ : Bool → Mu → Prop} (h : RE E te ε μ fun w μ1 => TB w μ1 Ψ) : RT E (tTest te) ε μ Ψ := fun σ G H C X Q k =>
  h σ G H C X _ fun v w G1 H1 μ1 C1 e1 r1 h1 => by
    obtain ⟨b, rfl, h1⟩ := h1
    cases r1
    exact ⟨b, rfl, k b G1 H1 μ1 C1 e1 h1⟩
theorem rt_B {Ψ : Bool → Mu → Prop} (h : RE E te ε μ fun w μ1 => TB w μ1 Ψ) : RT E (tB te) ε μ Ψ := fun σ G H C X Q k =>
  h σ G H C X _ fun v w G1 H1 μ1 C1 e1 r1 h1 => by
    obtain ⟨b, rfl, h1⟩ := h1
    cases r1
    exact ⟨b, rfl, k b G1 H1 μ1 C1 e1 h1⟩
theorem rt_not {Ψ : Bool → Mu → Prop} (h : RT E t ε μ fun b μ1 => Ψ (!b) μ1) : RT E (tNot t) ε μ Ψ := fun σ G H C X Q k => h σ G H C X _ fun b G1 H1 μ1 C1 e1 h1 => k (!b) G1 H1 μ1 C1 e1 h1
theorem rt_and {Ψ : Bool → Mu → Prop} (h : RT E t ε μ fun b μ1 => (b = true → RT E u ε μ1 Ψ) ∧ (b = false → Ψ false μ1)) : RT E (tAnd t u) ε μ Ψ := fun σ G H C X Q k => h σ G H C X _ fun b G1 H1 μ1 C1 e1 h1 => by
  cases b with
  | true => exact h1.1 rfl σ G1 H1 (C.to C1 e1) (X.to e1) Q fun b G2 H2 μ2 C2 e2 q => k b G2 H2 μ2 C2 (e1.trans e2) q
  | false => exact k false G1 H1 μ1 C1 e1 (h1.2 rfl)
theorem rt_or {Ψ : Bool → Mu → Prop} (h : RT E t ε μ fun b μ1 => (b = false → RT E u ε μ1 Ψ) ∧ (b = true → Ψ true μ1)) : RT E (tOr t u) ε μ Ψ := fun σ G H C X Q k => h σ G H C X _ fun b G1 H1 μ1 C1 e1 h1 => by
  cases b with
  | false => exact h1.1 rfl σ G1 H1 (C.to C1 e1) (X.to e1) Q fun b G2 H2 μ2 C2 e2 q => k b G2 H2 μ2 C2 (e1.trans e2) q
  | true => exact k true G1 H1 μ1 C1 e1 (h1.2 rfl)
theorem re_andV (h : RE E ta ε μ fun w μ1 => TB w μ1 fun b μ2 => (b = true → RE E tb ε μ2 Ψ) ∧ (b = false → Ψ (.b false) μ2)) : RE E (tAndV ta tb) ε μ Ψ := fun σ G H C X Q k => h σ G H C X _ fun v w G1 H1 μ1 C1 e1 r1 h1 => by
  obtain ⟨b, rfl, h1⟩ := h1
  cases r1
  refine ⟨b, rfl, ?_⟩
  cases b with
  | true => exact h1.1 rfl σ G1 H1 (C.to C1 e1) (X.to e1) Q fun v w G2 H2 μ2 C2 e2 r q => k v w G2 H2 μ2 C2 (e1.trans e2) r q
  | false => exact k _ (.b false) G1 H1 μ1 C1 e1 (Dr.bl _) (h1.2 rfl)
theorem re_orV (h : RE E ta ε μ fun w μ1 => TB w μ1 fun b μ2 => (b = false → RE E tb ε μ2 Ψ) ∧ (b = true → Ψ (.b true) μ2)) : RE E (tOrV ta tb) ε μ Ψ := fun σ G H C X Q k => h σ G H C X _ fun v w G1 H1 μ1 C1 e1 r1 h1 => by
  obtain ⟨b, rfl, h1⟩ := h1
  cases r1
  refine ⟨b, rfl, ?_⟩
  cases b with
  | false => exact h1.1 rfl σ G1 H1 (C.to C1 e1) (X.to e1) Q fun v w G2 H2 μ2 C2 e2 r q => k v w G2 H2 μ2 C2 (e1.trans e2) r q
  | true => exact k _ (.b true) G1 H1 μ1 C1 e1 (Dr.bl _) (h1.2 rfl)
theorem re_notV (h : RE E ta ε μ fun w μ1 => TB w μ1 fun b μ2 => Ψ (.b (!b)) μ2) : RE E (tNotV ta) ε μ Ψ := fun σ G H C X Q k => h σ G H C X _ fun v w G1 H1 μ1 C1 e1 r1 h1 => by
  obtain ⟨b, rfl, h1⟩ := h1
  cases r1
  exact ⟨b, rfl, k _ (.b (!b)) G1 H1 μ1 C1 e1 (Dr.bl _) h1⟩
theorem re_if (h : RT E tt ε μ fun b μ1 => (b = true → RE E ta ε μ1 Ψ) ∧ (b = false → RE E tb ε μ1 Ψ)) : RE E (tIf tt ta tb) ε μ Ψ := fun σ G H C X Q k => h σ G H C X _ fun b G1 H1 μ1 C1 e1 h1 => by
  cases b with
  | true => exact h1.1 rfl σ G1 H1 (C.to C1 e1) (X.to e1) Q fun v w G2 H2 μ2 C2 e2 r q => k v w G2 H2 μ2 C2 (e1.trans e2) r q
  | false => exact h1.2 rfl σ G1 H1 (C.to C1 e1) (X.to e1) Q fun v w G2 H2 μ2 C2 e2 r q => k v w G2 H2 μ2 C2 (e1.trans e2) r q
theorem re_mono {Ψ' : W → Mu → Prop} (h : RE E te ε μ Ψ') (m : ∀ w μ', Ψ' w μ' → Ψ w μ') : RE E te ε μ Ψ := fun σ G H C X Q k => h σ G H C X Q fun v w G' H' μ' C' e r q => k v w G' H' μ' C' e r (m w μ' q)
theorem rs_mono {ts : TS} {Φ Φ' : Fi} (h : RS E ts ε μ Φ') (nx : ∀ ε μ, Φ'.nx ε μ → Φ.nx ε μ) (rt : ∀ w μ, Φ'.rt w μ → Φ.rt w μ) (bk : ∀ ε μ, Φ'.bk ε μ → Φ.bk ε μ) (ct : ∀ ε μ, Φ'.ct ε μ → Φ.ct ε μ) : RS E ts ε μ Φ := fun σ G H C X D T =>
  h σ G H C X D ⟨fun σ' ε' G' H' μ' S s q => T.nx σ' ε' G' H' μ' S s (nx ε' μ' q), fun v w G' H' μ' S s r q => T.rt v w G' H' μ' S s r (rt w μ' q), fun σ' ε' G' H' μ' S s q => T.bk σ' ε' G' H' μ' S s (bk ε' μ' q), fun σ' ε' G' H' μ' S s q => T.ct σ' ε' G' H' μ' S s (ct ε' μ' q)⟩
end
/-- two ways by a decided proposition -/
theorem br {P : Prop} [Decidable P] {A B : Prop} (h1 : P → A) (h2 : ¬ P → B) : (decide P = true → A) ∧ (decide P = false → B) := ⟨fun h => h1 (of_decide_eq_true h), fun h => h2 (of_decide_eq_false h)⟩
theorem brn {P : Prop} [Decidable P] {A B : Prop} (h1 : ¬ P → A) (h2 : P → B) : ((!decide P) = true → A) ∧ ((!decide P) = false → B) := ⟨fun h => h1 (by simpa using h), fun h => h2 (by simpa using h)⟩
end Sn

/-! Sn, second part: operations, statements, loops, calls, a def's rule. -/
namespace Sn
open PySem PySem.Spec PyProof.Rows L2
/-! ### the state changed -/
section
variable {K : PySem.W.Frag} {G H : Hp} {μ : Mu} {σ : L2.St} {ε : Ep} {l p : Addr} {c c' : HC} {o : HO} {k : Nat}
theorem Hold.ne (S : Hold K G H μ) {q : Addr × HC} (hq : q ∈ μ) (hp : H p = none) : q.1 ≠ p := fun e => by
  obtain ⟨_, o, ho, _⟩ := S.at_ q hq
  rw [e, hp] at ho; cases ho
theorem Hold.gnone (S : Hold K G H μ) (hp : H p = none) : G p = none := by
  cases q : G p with
  | none => rfl
  | some o => rw [S.gh p o q] at hp; cases hp
theorem ex_upd {A B : Hp} {o : HO} (e : Ex A B) : Ex (upd A p o) (upd B p o) := fun b u hb => by
  by_cases h : b = p
  · subst h; rw [upd_same] at hb ⊢; exact hb
  · rw [upd_ne h] at hb ⊢; exact e b u hb
theorem ex_new {A : Hp} {o : HO} (h : A p = none) : Ex A (upd A p o) := Evl.Ex.new h
/-- a new owned object -/
theorem Hold.newO (S : Hold K G H μ) (hp : H p = none) (hc : HCr K G o c) : Hold K G (upd H p o) ((p, c) :: μ) where
  gh := S.gh.trans (ex_new hp)
  nd := by
    show (p :: μ.ad).Nodup
    refine List.nodup_cons.mpr ⟨fun m => ?_, S.nd⟩
    obtain ⟨q, hq, e⟩ := List.mem_map.mp m
    exact S.ne hq hp e
  at_ := fun q hq => by
    rcases List.mem_cons.mp hq with rfl | hq
    · exact ⟨S.gnone hp, o, upd_same, hc⟩
    · obtain ⟨h1, u, h2, h3⟩ := S.at_ q hq
      exact ⟨h1, u, by rw [upd_ne (S.ne hq hp)]; exact h2, h3⟩
theorem Since.newO (S : Hold K G H μ) (hp : H p = none) : Since μ G H G (upd H p o) ((p, c) :: μ) where
  gg := Evl.Ex.refl G
  keep := fun a u h _ => by rw [upd_ne (ne_of_none h hp)]; exact h
  there := fun a h => by
    by_cases e : a = p
    · subst e; rw [upd_same]; simp
    · rw [upd_ne e]; exact h
  new := fun _ _ _ => rfl
  own := fun q hq => by
    rcases List.mem_cons.mp hq with rfl | hq
    · exact .inr hp
    · exact .inl (List.mem_map_of_mem hq)
/-- a new frozen object -/
theorem Hold.newF (S : Hold K G H μ) (hp : H p = none) : Hold K (upd G p o) (upd H p o) μ where
  gh := ex_upd S.gh
  nd := S.nd
  at_ := fun q hq => by
    obtain ⟨h1, u, h2, h3⟩ := S.at_ q hq
    have n := S.ne hq hp
    exact ⟨by rw [upd_ne n]; exact h1, u, by rw [upd_ne n]; exact h2, h3.up (ex_new (S.gnone hp))⟩
theorem Since.newF (S : Hold K G H μ) (hp : H p = none) : Since μ G H (upd G p o) (upd H p o) μ where
  gg := ex_new (S.gnone hp)
  keep := fun a u h _ => by rw [upd_ne (ne_of_none h hp)]; exact h
  there := fun a h => by
    by_cases e : a = p
    · subst e; rw [upd_same]; simp
    · rw [upd_ne e]; exact h
  new := fun a h _ => upd_ne (fun e => h (by rw [e]; exact hp))
  own := fun q hq => .inl (List.mem_map_of_mem hq)
theorem mu_mem (h : μ[k]? = some (l, c)) : (l, c) ∈ μ := List.mem_of_getElem? h
theorem Hold.own (S : Hold K G H μ) (h : μ[k]? = some (l, c)) : G l = none ∧ ∃ o, H l = some o ∧ HCr K G o c := S.at_ _ (mu_mem h)
theorem Hold.lst (S : Hold K G H μ) {ws : List W} (h : μ[k]? = some (l, .lst ws)) : G l = none ∧ ∃ xs, H l = some (.lst xs) ∧ WrA K G xs ws := by
  obtain ⟨h1, o, h2, h3⟩ := S.own h
  obtain ⟨xs, rfl, h4⟩ := h3.lst
  exact ⟨h1, xs, h2, h4⟩
theorem ad_set (h : μ[k]? = some (l, c)) : (μ.set k (l, c')).map (·.1) = μ.ad := by
  apply List.ext_getElem?
  intro i
  show ((μ.set k (l, c')).map (·.1))[i]? = (μ.map (·.1))[i]?
  rw [List.getElem?_map, List.getElem?_map, List.getElem?_set]
  split
  · rename_i e
    subst e
    split
    · rw [h]; rfl
    · rename_i hl
      rw [List.getElem?_eq_none (by omega)]
  · rfl
/-- an owned object written -/
theorem Hold.write (S : Hold K G H μ) (h : μ[k]? = some (l, c)) (hc : HCr K G o c') : Hold K G (upd H l o) (μ.set k (l, c')) where
  gh := fun a u ha => by
    have n : a ≠ l := fun e => by rw [e, (S.own h).1] at ha; cases ha
    rw [upd_ne n]; exact S.gh a u ha
  nd := by
    show ((μ.set k (l, c')).map (·.1)).Nodup
    rw [ad_set h]; exact S.nd
  at_ := fun q hq => by
    by_cases e : q.1 = l
    · obtain ⟨i, hi⟩ := List.mem_iff_getElem?.mp hq
      have nd := S.nd
      by_cases hik : i = k
      · subst hik
        rw [List.getElem?_set, if_pos rfl] at hi
        split at hi
        · cases hi
          exact ⟨(S.own h).1, o, upd_same, hc⟩
        · cases hi
      · rw [List.getElem?_set_ne (Ne.symm hik)] at hi
        have h1 : μ.ad[i]? = some l := by show (μ.map (·.1))[i]? = _; rw [List.getElem?_map, hi]; exact congrArg some e
        have h2 : μ.ad[k]? = some l := by show (μ.map (·.1))[k]? = _; rw [List.getElem?_map, h]; rfl
        obtain ⟨l1, e1⟩ := List.getElem?_eq_some_iff.mp h1
        obtain ⟨l2, e2⟩ := List.getElem?_eq_some_iff.mp h2
        exact absurd ((List.getElem_inj nd).mp (e1.trans e2.symm)) hik
    · have hq' : q ∈ μ := by
        rcases List.mem_or_eq_of_mem_set hq with z | z
        · exact z
        · rw [z] at e; exact absurd rfl e
      obtain ⟨h1, u, h2, h3⟩ := S.at_ q hq'
      exact ⟨h1, u, by rw [upd_ne e]; exact h2, h3⟩
theorem Since.write (S : Hold K G H μ) (h : μ[k]? = some (l, c)) : Since μ G H G (upd H l o) (μ.set k (l, c')) where
  gg := Evl.Ex.refl G
  keep := fun a u ha n => by
    rw [upd_ne (fun e => n (by rw [e]; exact List.mem_map_of_mem (mu_mem h)))]; exact ha
  there := fun a ha => by
    by_cases e : a = l
    · subst e; rw [upd_same]; simp
    · rw [upd_ne e]; exact ha
  new := fun _ _ _ => rfl
  own := fun q hq => by
    left
    have m : q.1 ∈ (μ.set k (l, c')).map (·.1) := List.mem_map_of_mem hq
    rw [ad_set h] at m; exact m
/-- an owned list is given to the frozen part -/
theorem Hold.frz (S : Hold K G H μ) (h : μ[k]? = some (l, c)) (ho : H l = some o) : Hold K (upd G l o) H (μ.eraseIdx k) where
  gh := fun a u ha => by
    by_cases e : a = l
    · subst e; rw [upd_same] at ha; rw [ho]; exact ha
    · rw [upd_ne e] at ha; exact S.gh a u ha
  nd := by
    show ((μ.eraseIdx k).map (·.1)).Nodup
    exact S.nd.sublist ((List.eraseIdx_sublist μ k).map _)
  at_ := fun q hq => by
    have hq' : q ∈ μ := List.mem_of_mem_eraseIdx hq
    have n : q.1 ≠ l := fun e => by
      obtain ⟨i, hik, hi⟩ := List.mem_eraseIdx_iff_getElem?.mp hq
      have h1 : μ.ad[i]? = some l := by show (μ.map (·.1))[i]? = _; rw [List.getElem?_map, hi]; exact congrArg some e
      have h2 : μ.ad[k]? = some l := by show (μ.map (·.1))[k]? = _; rw [List.getElem?_map, h]; rfl
      obtain ⟨l1, e1⟩ := List.getElem?_eq_some_iff.mp h1
      obtain ⟨l2, e2⟩ := List.getElem?_eq_some_iff.mp h2
      exact hik ((List.getElem_inj S.nd).mp (e1.trans e2.symm))
    obtain ⟨h1, u, h2, h3⟩ := S.at_ q hq'
    exact ⟨by rw [upd_ne n]; exact h1, u, h2, h3.up (ex_new (S.own h).1)⟩
end
/-! ### frames: a callee sees the tail of the owned objects -/
theorem mem_ad {μ : Mu} {l : Addr} (h : l ∈ μ.ad) : ∃ c, (l, c) ∈ μ := by
  obtain ⟨q, hq, e⟩ := List.mem_map.mp h
  exact ⟨q.2, e ▸ hq⟩
theorem Hold.tail {K : PySem.W.Frag} {G H : Hp} {μ : Mu} (n : Nat) (S : Hold K G H μ) : Hold K G H (μ.drop n) :=
  ⟨S.gh, by show ((μ.drop n).map (·.1)).Nodup; exact S.nd.sublist ((List.drop_sublist n μ).map _), fun q hq => S.at_ q (List.mem_of_mem_drop hq)⟩
theorem take_not_drop {μ : Mu} (n : Nat) (nd : μ.ad.Nodup) {q : Addr × HC} (hq : q ∈ μ.take n) : q.1 ∉ (μ.drop n).map (·.1) := fun m => by
  have e : μ.ad = (μ.take n).map (·.1) ++ (μ.drop n).map (·.1) := by
    show μ.map (·.1) = _
    rw [← List.map_append, List.take_append_drop]
  rw [e] at nd
  exact (List.nodup_append.mp nd).2.2 _ (List.mem_map_of_mem hq) _ m rfl
theorem Hold.frame {K : PySem.W.Frag} {G H G' H' : Hp} {μ μ' : Mu} (n : Nat) (S : Hold K G H μ) (S' : Hold K G' H' μ') (s : Since (μ.drop n) G H G' H' μ') : Hold K G' H' (μ.take n ++ μ') where
  gh := S'.gh
  nd := by
    show ((μ.take n ++ μ').map (·.1)).Nodup
    rw [List.map_append]
    refine List.nodup_append.mpr ⟨by exact S.nd.sublist ((List.take_sublist n μ).map _), S'.nd, fun a ha b hb e => ?_⟩
    subst e
    obtain ⟨q, hq, e⟩ := List.mem_map.mp ha
    obtain ⟨r, hr, e2⟩ := List.mem_map.mp hb
    rcases s.own r hr with z | z
    · rw [e2, ← e] at z; exact take_not_drop n S.nd hq z
    · obtain ⟨_, o, ho, _⟩ := S.at_ q (List.mem_of_mem_take hq)
      rw [e2, ← e, ho] at z; cases z
  at_ := fun q hq => by
    rcases List.mem_append.mp hq with hq | hq
    · obtain ⟨h1, o, h2, h3⟩ := S.at_ q (List.mem_of_mem_take hq)
      exact ⟨(s.new q.1 (by rw [h2]; simp) (take_not_drop n S.nd hq)).trans h1, o, s.keep q.1 o h2 (take_not_drop n S.nd hq), h3.up s.gg⟩
    · exact S'.at_ q hq
theorem Since.frame {K : PySem.W.Frag} {G H G' H' : Hp} {μ μ' : Mu} (n : Nat) (s : Since (μ.drop n) G H G' H' μ') : Since μ G H G' H' (μ.take n ++ μ') where
  gg := s.gg
  keep := fun a o h m => s.keep a o h fun z => m (by
    obtain ⟨q, hq, e⟩ := List.mem_map.mp z
    exact e ▸ List.mem_map_of_mem (List.mem_of_mem_drop hq))
  there := s.there
  new := fun a h m => s.new a h fun z => m (by
    obtain ⟨q, hq, e⟩ := List.mem_map.mp z
    exact e ▸ List.mem_map_of_mem (List.mem_of_mem_drop hq))
  own := fun q hq => by
    rcases List.mem_append.mp hq with hq | hq
    · exact .inl (List.mem_map_of_mem (List.mem_of_mem_take hq))
    · rcases s.own q hq with z | z
      · left
        obtain ⟨r, hr, e⟩ := List.mem_map.mp z
        exact e ▸ List.mem_map_of_mem (List.mem_of_mem_drop hr)
      · exact .inr z
/-! ### operations on ints, bools, texts -/
section
variable {E : En} {μ : Mu} {i j : Int} {x y : Str} {a b : Bool} {C : Int → Int → Prop}
theorem vo_I {f : Int → Int → Int} (hc : C i j) : VO E (rI C fun i j => .int (f i j)) (.i i) (.i j) μ (.i (f i j)) := fun G H S v1 v2 r1 r2 Q q => by
  cases r1; cases r2
  exact ⟨i, j, rfl, rfl, hc, q _ (Dr.int _)⟩
theorem vo_I0 {f : Int → Int → Int} : VO E (rI0 fun i j => .int (f i j)) (.i i) (.i j) μ (.i (f i j)) := fun G H S v1 v2 r1 r2 Q q => by
  cases r1; cases r2
  exact ⟨i, j, rfl, rfl, q _ (Dr.int _)⟩
theorem vo_B0 {f : Int → Int → Bool} : VO E (rI0 fun i j => .bl (f i j)) (.i i) (.i j) μ (.b (f i j)) := fun G H S v1 v2 r1 r2 Q q => by
  cases r1; cases r2
  exact ⟨i, j, rfl, rfl, q _ (Dr.bl _)⟩
theorem vo_eqI : VO E rEq (.i i) (.i j) μ (.b (decide (i = j))) := fun G H S v1 v2 r1 r2 Q q => by
  cases r1; cases r2
  refine ⟨rfl, ?_⟩
  have e : decide (V.int i = V.int j) = decide (i = j) := by simp
  rw [e]; exact q _ (Dr.bl _)
theorem vo_neI : VO E rNe (.i i) (.i j) μ (.b (!decide (i = j))) := fun G H S v1 v2 r1 r2 Q q => by
  cases r1; cases r2
  refine ⟨rfl, ?_⟩
  have e : decide (V.int i = V.int j) = decide (i = j) := by simp
  rw [e]; exact q _ (Dr.bl _)
theorem vo_eqS : VO E rEq (.s x) (.s y) μ (.b (decide (x = y))) := fun G H S v1 v2 r1 r2 Q q => by
  cases r1; cases r2
  refine ⟨rfl, ?_⟩
  have e : decide (V.str x = V.str y) = decide (x = y) := by simp
  rw [e]; exact q _ (Dr.bl _)
theorem vo_neS : VO E rNe (.s x) (.s y) μ (.b (!decide (x = y))) := fun G H S v1 v2 r1 r2 Q q => by
  cases r1; cases r2
  refine ⟨rfl, ?_⟩
  have e : decide (V.str x = V.str y) = decide (x = y) := by simp
  rw [e]; exact q _ (Dr.bl _)
theorem vo_eqB : VO E rEq (.b a) (.b b) μ (.b (decide (a = b))) := fun G H S v1 v2 r1 r2 Q q => by
  cases r1; cases r2
  refine ⟨rfl, ?_⟩
  have e : decide (V.bl a = V.bl b) = decide (a = b) := by simp
  rw [e]; exact q _ (Dr.bl _)
theorem vo_neB : VO E rNe (.b a) (.b b) μ (.b (!decide (a = b))) := fun G H S v1 v2 r1 r2 Q q => by
  cases r1; cases r2
  refine ⟨rfl, ?_⟩
  have e : decide (V.bl a = V.bl b) = decide (a = b) := by simp
  rw [e]; exact q _ (Dr.bl _)
theorem vo_neg : VO E (fun x _ H Q => rU (fun i => .int (-i)) x H Q) (.i i) .n μ (.i (-i)) := fun G H S v1 v2 r1 r2 Q q => by
  cases r1
  exact ⟨i, rfl, q _ (Dr.int _)⟩
/-- None or not -/
def D.isN : D → Bool
  | .non => true
  | _ => false
def W.isN : W → Bool
  | .dat d => d.isN
  | .at _ => false
theorem Wr.isN {K : PySem.W.Frag} {G : Hp} {v : V} {w : W} (r : Wr K G v w) : decide (v = .non) = w.isN := by
  cases w with
  | dat d =>
    cases r with
    | non => rfl
    | bl _ => rfl
    | int _ => rfl
    | str _ => rfl
    | ty _ => rfl
    | cls _ => rfl
    | tup _ _ => rfl
    | lst _ _ => rfl
    | exc0 _ => rfl
    | exc1 _ _ _ => rfl
  | «at» l => cases r; rfl
def rIsNon : R2 := fun x y H Q => y = .non ∧ Q (.bl (decide (x = .non))) H
def rNotNon : R2 := fun x y H Q => y = .non ∧ Q (.bl (!decide (x = .non))) H
theorem op_isNon {X : Cx} : OpR X (compareOp .Is) rIsNon := op_isN
theorem op_notNon {X : Cx} : OpR X (compareOp .IsNot) rNotNon := op_notN
theorem vo_isN {w : W} : VO E rIsNon w .n μ (.b w.isN) := fun G H S v1 v2 r1 r2 Q q => by
  cases r2
  refine ⟨rfl, ?_⟩
  rw [r1.isN]; exact q _ (Dr.bl _)
theorem vo_notN {w : W} : VO E rNotNon w .n μ (.b (!w.isN)) := fun G H S v1 v2 r1 r2 Q q => by
  cases r2
  refine ⟨rfl, ?_⟩
  rw [r1.isN]; exact q _ (Dr.bl _)
/-- // by any divisor that is not 0 and below 2 ^ 9000 -/
def CDivX (_ j : Int) : Prop := j ≠ 0 ∧ j.natAbs.log2 < 9000
theorem op_fdivX {X : Cx} : OpR X (binaryOp .FloorDiv) (rI CDivX fun i j => .int (i.fdiv j)) := opI fun _ _ _ _ _ _ _ hc q => PyProof.Rows.floordiv_int hc.1 q (.inl (PyProof.noPylong_of_log2 hc.2))
/-- ** where the base has at most 5000 bits and the exponent is at most 1000 -/
def CPowX (i j : Int) : Prop := 0 ≤ j ∧ j ≤ 20000 ∧ i.natAbs.log2 < 5000
theorem op_powX {X : Cx} : OpR X (binaryOp .Pow) (rI CPowX fun i j => .int (i ^ j.toNat)) := opI fun i j _ _ _ _ _ hc q => PyProof.Rows.pow_int hc.1 (by
  obtain ⟨h0, h1, h2⟩ := hc
  have b : Builtin.Int.intBits i ≤ i.natAbs.log2 + 1 := by
    unfold Builtin.Int.intBits
    split <;> omega
  have e1 : ((Builtin.Int.intBits i : Nat) : Int) ≤ 5000 := by omega
  have e2 : ((Builtin.Int.intBits i : Nat) : Int) * j ≤ 5000 * 20000 := Int.mul_le_mul e1 h1 h0 (by omega)
  exact Int.le_trans e2 (by decide)) q
end
/-! ### items -/
section
variable {E : En} {μ : Mu} {i : Int} {k : Nat} {ds : List D} {d : D} {ws : List W} {w : W} {l : Addr}
theorem ix_up {α β : Type} {xs : List α} {ys : List β} {R : α → β → Prop} (hl : xs.length = ys.length) (hg : ∀ (j : Nat) (y : β), ys[j]? = some y → ∃ x, xs[j]? = some x ∧ R x y) {y : β} (h : atI ys i = some y) : ∃ x, atI xs i = some x ∧ R x y := by
  unfold atI at h ⊢
  rw [hl]
  cases e : ixN ys.length i with
  | none => rw [e] at h; cases h
  | some j =>
    rw [e] at h
    exact hg j y h
theorem vo_ixT (h : atI ds i = some d) : VO E (rIx E.K) (.dat (.tup ds)) (.i i) μ (.dat d) := fun G H S v1 v2 r1 r2 Q q => by
  cases r2
  cases r1 with
  | tup hs ha =>
    obtain ⟨v, hv, rv⟩ := ix_up ha.length (fun j y e => ha.get e) h
    exact .inr (.inl ⟨_, _, i, v, rfl, rfl, Evl.ex_t S.gh hs, hv, q v rv⟩)
theorem vo_ixL (h : atI ds i = some d) : VO E (rIx E.K) (.dat (.lst ds)) (.i i) μ (.dat d) := fun G H S v1 v2 r1 r2 Q q => by
  cases r2
  cases r1 with
  | lst hs ha =>
    obtain ⟨v, hv, rv⟩ := ix_up ha.length (fun j y e => ha.get e) h
    exact .inl ⟨_, _, i, v, rfl, rfl, Evl.ex_l S.gh hs, hv, q v rv⟩
theorem vo_ixA (hk : μ[k]? = some (l, .lst ws)) (h : atI ws i = some w) : VO E (rIx E.K) (.at l) (.i i) μ w := fun G H S v1 v2 r1 r2 Q q => by
  cases r2
  cases r1
  obtain ⟨_, xs, hx, rx⟩ := S.lst hk
  obtain ⟨v, hv, rv⟩ := ix_up (Paired.length rx) (fun j y e => WrA.get rx e) h
  exact .inl ⟨l, xs, i, v, rfl, rfl, SqL.of hx, hv, q v rv⟩
theorem vo_ixA0 (hk : μ[0]? = some (l, .lst ws)) (h : atI ws i = some w) : VO E (rIx E.K) (.at l) (.i i) μ w := vo_ixA hk h
theorem vo_ixA1 (hk : μ[1]? = some (l, .lst ws)) (h : atI ws i = some w) : VO E (rIx E.K) (.at l) (.i i) μ w := vo_ixA hk h
theorem vo_ixA2 (hk : μ[2]? = some (l, .lst ws)) (h : atI ws i = some w) : VO E (rIx E.K) (.at l) (.i i) μ w := vo_ixA hk h
theorem atI_nat {α : Type} {xs : List α} {j : Nat} {x : α} (h : xs[j]? = some x) : atI xs (j : Int) = some x := by
  unfold atI
  have hl := (List.getElem?_eq_some_iff.mp h).1
  have e : ixN xs.length (j : Int) = some j := Evl.ixN_nat hl
  rw [e]; exact h
theorem atI_int {α : Type} {xs : List α} {i : Int} {x : α} (h0 : 0 ≤ i) (h : xs[i.toNat]? = some x) : atI xs i = some x := by
  have := atI_nat (j := i.toNat) h
  rwa [Int.toNat_of_nonneg h0] at this
end
/-! ### built-in calls -/
section
variable {E : En} {μ : Mu} {i j : Int} {k : Nat} {ds : List D} {d : D} {ws : List W} {w : W} {l : Addr}
def rAbs : List V → Hp → VK → Prop := fun xs H Q => ∃ i, xs = [.int i] ∧ Q (.int (if i < 0 then -i else i)) H
theorem cr_abs {X : Cx} : CallR X (.builtin "abs") rAbs := call_abs
theorem vc_abs : VC E rAbs [.i i] μ (.i (i.natAbs : Int)) := fun G H S vs rs Q q => by
  cases rs with
  | cons r t =>
    cases r; cases t
    refine ⟨i, rfl, ?_⟩
    have e : (if i < 0 then -i else i) = (i.natAbs : Int) := by split <;> omega
    rw [e]; exact q _ (Dr.int _)
def rMx2 : List V → Hp → VK → Prop := fun xs H Q => ∃ i j, xs = [.int i, .int j] ∧ Q (.int (if j > i then j else i)) H
theorem cr_max2 {X : Cx} (hc : X.calm = true) : CallR X (.builtin "max") rMx2 := call_max2 hc
theorem vc_max2 : VC E rMx2 [.i i, .i j] μ (.i (max i j)) := fun G H S vs rs Q q => by
  cases rs with
  | cons r t =>
    cases t with
    | cons r2 t =>
      cases r; cases r2; cases t
      refine ⟨i, j, rfl, ?_⟩
      have e : (if j > i then j else i) = max i j := by rw [Int.max_def]; split <;> split <;> omega
      rw [e]; exact q _ (Dr.int _)
def rMn2 : List V → Hp → VK → Prop := fun xs H Q => ∃ i j, xs = [.int i, .int j] ∧ Q (.int (if j < i then j else i)) H
theorem cr_min2 {X : Cx} (hc : X.calm = true) : CallR X (.builtin "min") rMn2 := call_min2 hc
theorem vc_min2 : VC E rMn2 [.i i, .i j] μ (.i (min i j)) := fun G H S vs rs Q q => by
  cases rs with
  | cons r t =>
    cases t with
    | cons r2 t =>
      cases r; cases r2; cases t
      refine ⟨i, j, rfl, ?_⟩
      have e : (if j < i then j else i) = min i j := by rw [Int.min_def]; split <;> split <;> omega
      rw [e]; exact q _ (Dr.int _)
def rInt1 : List V → Hp → VK → Prop := fun xs H Q => (∃ i, xs = [.int i] ∧ Q (.int i) H) ∨ ∃ k, xs = [.bl k] ∧ Q (.int (if k then 1 else 0)) H
theorem cr_int1 {X : Cx} : CallR X (.type "int") rInt1 := call_int1
theorem vc_int1 : VC E rInt1 [.i i] μ (.i i) := fun G H S vs rs Q q => by
  cases rs with
  | cons r t =>
    cases r; cases t
    exact .inl ⟨i, rfl, q _ (Dr.int _)⟩
def rLn (K : PySem.W.Frag) : List V → Hp → VK → Prop := fun xs H Q => ∃ x n, xs = [x] ∧ LenV K x H n ∧ Q (.int n) H
theorem cr_len {X : Cx} : CallR X (.builtin "len") (rLn X.K) := call_len
theorem vc_lenT : VC E (rLn E.K) [.dat (.tup ds)] μ (.i ds.length) := fun G H S vs rs Q q => by
  cases rs with
  | cons r t =>
    cases t
    cases r with
    | tup hs ha => exact ⟨_, ds.length, rfl, .inr ⟨_, Evl.ex_t S.gh hs, ha.length.symm⟩, q _ (Dr.int _)⟩
theorem vc_lenL : VC E (rLn E.K) [.dat (.lst ds)] μ (.i ds.length) := fun G H S vs rs Q q => by
  cases rs with
  | cons r t =>
    cases t
    cases r with
    | lst hs ha => exact ⟨_, ds.length, rfl, .inl ⟨_, Evl.ex_l S.gh hs, ha.length.symm⟩, q _ (Dr.int _)⟩
theorem vc_lenA (hk : μ[k]? = some (l, .lst ws)) : VC E (rLn E.K) [.at l] μ (.i ws.length) := fun G H S vs rs Q q => by
  cases rs with
  | cons r t =>
    cases t
    cases r
    obtain ⟨_, xs, hx, rx⟩ := S.lst hk
    exact ⟨_, ws.length, rfl, .inl ⟨xs, SqL.of hx, (Paired.length rx).symm⟩, q _ (Dr.int _)⟩
theorem vc_lenA0 (hk : μ[0]? = some (l, .lst ws)) : VC E (rLn E.K) [.at l] μ (.i ws.length) := vc_lenA hk
theorem vc_lenA1 (hk : μ[1]? = some (l, .lst ws)) : VC E (rLn E.K) [.at l] μ (.i ws.length) := vc_lenA hk
theorem vc_lenA2 (hk : μ[2]? = some (l, .lst ws)) : VC E (rLn E.K) [.at l] μ (.i ws.length) := vc_lenA hk
theorem vc_lenS {x : Str} (hz : x.length ≤ sizeLine) : VC E (rLn E.K) [.s x] μ (.i (x.length : Nat)) := fun G H S vs rs Q q => by
  cases rs with
  | cons r t =>
    cases t
    cases r
    exact ⟨_, _, rfl, ⟨hz, rfl⟩, q _ (Dr.int _)⟩
/-- the kind of a datum -/
def D.kind : D → String
  | .non => "NoneType"
  | .bl _ => "bool"
  | .int _ => "int"
  | .str _ => "str"
  | .tup _ => "tuple"
  | .lst _ => "list"
  | .ty _ => "?"
  | .cls _ => "?"
  | .exc _ _ _ => "?"
def W.kind : W → String
  | .dat d => d.kind
  | .at _ => "list"
theorem tyx_t {K : PySem.W.Frag} {H : Hp} {a : Addr} {xs : List V} (h : SqT K H a xs) : TyX K H (.ref a) (.type "tuple") := by
  rcases h with (h | ⟨o, h⟩) | ⟨o, its, n, h1, h2, _⟩
  · exact .base (.tup h)
  · exact .fTuple h
  · exact .kTuple h1 h2
theorem tyx_l {K : PySem.W.Frag} {H : Hp} {a : Addr} {xs : List V} (h : SqL K H a xs) : TyX K H (.ref a) (.type "list") := by
  rcases h with (h | ⟨o, h⟩) | ⟨o, its, n, h1, h2, _⟩
  · exact .base (.lst h)
  · exact .base (.frz h)
  · exact .kList h1 h2
theorem Dr.tyx {K : PySem.W.Frag} {G H : Hp} {v : V} (e : Ex G H) (h : Dr K G v d) (hk : d.kind ≠ "?") : TyX K H v (.type d.kind) := by
  cases h with
  | non => exact .base .non
  | bl _ => exact .base (.bl _)
  | int _ => exact .base (.int _)
  | str _ => exact .base (.str _)
  | ty _ => exact absurd rfl hk
  | cls _ => exact absurd rfl hk
  | exc0 _ => exact absurd rfl hk
  | exc1 _ _ _ => exact absurd rfl hk
  | tup hs _ => exact tyx_t (Evl.ex_t e hs)
  | lst hs _ => exact tyx_l (Evl.ex_l e hs)
theorem vc_isi {n : String} {b : Bool} (hk : d.kind ≠ "?") (h : kitB d.kind n = some b) : VC E (rIsi E.K) [.dat d, .dat (.ty n)] μ (.b b) := fun G H S vs rs Q q => by
  cases rs with
  | cons r t =>
    cases t with
    | cons r2 t =>
      cases r2; cases t
      exact ⟨_, _, _, _, b, rfl, .ty n, r.tyx S.gh hk, kit_ty h, q _ (Dr.bl _)⟩
theorem vc_isiA {n : String} {b : Bool} (hm : μ[k]? = some (l, .lst ws)) (h : kitB "list" n = some b) : VC E (rIsi E.K) [.at l, .dat (.ty n)] μ (.b b) := fun G H S vs rs Q q => by
  cases rs with
  | cons r t =>
    cases t with
    | cons r2 t =>
      cases r; cases r2; cases t
      obtain ⟨_, xs, hx, _⟩ := S.lst hm
      exact ⟨_, _, _, _, b, rfl, .ty n, .base (.lst hx), kit_ty h, q _ (Dr.bl _)⟩
/-- list(x), tuple(x): new -/
def rListOf (K : PySem.W.Frag) : List V → Hp → VK → Prop := fun xs H Q => ∃ p ys, xs = [.ref p] ∧ (SqL K H p ys ∨ SqT K H p ys) ∧ ∀ l, H l = none → Q (.ref l) (upd H l (.lst ys))
theorem cr_listOf {X : Cx} : CallR X (.type "list") (rListOf X.K) := call_list_of
def rTupleOf (K : PySem.W.Frag) : List V → Hp → VK → Prop := fun xs H Q => ∃ p ys, xs = [.ref p] ∧ ((SqL K H p ys ∧ ∀ l, H l = none → Q (.ref l) (upd H l (.tup ys))) ∨ (SqT K H p ys ∧ Q (.ref p) H))
theorem cr_tupleOf {X : Cx} : CallR X (.type "tuple") (rTupleOf X.K) := call_tuple_of
/-- the data of a list or a tuple -/
def D.seq : D → Option (List D)
  | .tup ds => some ds
  | .lst ds => some ds
  | _ => none
theorem Dr.seqOf {K : PySem.W.Frag} {G : Hp} {v : V} (h : Dr K G v d) (hs : d.seq = some ds) : ∃ a xs, v = .ref a ∧ (SqL K G a xs ∨ SqT K G a xs) ∧ DrA K G xs ds := by
  cases h with
  | tup h1 h2 => cases hs; exact ⟨_, _, rfl, .inr h1, h2⟩
  | lst h1 h2 => cases hs; exact ⟨_, _, rfl, .inl h1, h2⟩
  | _ => cases hs
theorem sq_up {K : PySem.W.Frag} {G H : Hp} {a : Addr} {xs : List V} (e : Ex G H) (h : SqL K G a xs ∨ SqT K G a xs) : SqL K H a xs ∨ SqT K H a xs := h.imp (Evl.ex_l e) (Evl.ex_t e)
/-- list(data), frozen -/
theorem rc_listF {Ψ : W → Mu → Prop} (hs : d.seq = some ds) (q : Ψ (.dat (.lst ds)) μ) : RC E (rListOf E.K) [.dat d] μ Ψ := fun G H S vs rs Q k => by
  cases rs with
  | cons r t =>
    cases t
    obtain ⟨a, xs, rfl, h1, h2⟩ := r.seqOf hs
    refine ⟨a, xs, rfl, sq_up S.gh h1, fun l hl => ?_⟩
    have hg := S.gnone hl
    exact k _ (.dat (.lst ds)) _ _ μ (S.newF hl) (.newF S hl) (Dr.lst (SqL.of upd_same) (h2.up (ex_new hg))) q
/-- list(data), owned -/
theorem rc_listO {Ψ : W → Mu → Prop} (hs : d.seq = some ds) (q : ∀ l, Ψ (.at l) ((l, .lst (ds.map .dat)) :: μ)) : RC E (rListOf E.K) [.dat d] μ Ψ := fun G H S vs rs Q k => by
  cases rs with
  | cons r t =>
    cases t
    obtain ⟨a, xs, rfl, h1, h2⟩ := r.seqOf hs
    refine ⟨a, xs, rfl, sq_up S.gh h1, fun l hl => ?_⟩
    exact k _ (.at l) _ _ _ (S.newO (c := .lst (ds.map .dat)) hl (show WrA _ _ _ _ from h2.ws)) (.newO S hl) rfl (q l)
theorem rc_listAF {Ψ : W → Mu → Prop} (hm : μ[k]? = some (l, .lst (ds.map .dat))) (q : Ψ (.dat (.lst ds)) μ) : RC E (rListOf E.K) [.at l] μ Ψ := fun G H S vs rs Q k => by
  cases rs with
  | cons r t =>
    cases t
    cases r
    obtain ⟨_, xs, hx, rx⟩ := S.lst hm
    refine ⟨l, xs, rfl, .inl (SqL.of hx), fun p hp => ?_⟩
    have hg := S.gnone hp
    exact k _ (.dat (.lst ds)) _ _ μ (S.newF hp) (.newF S hp) (Dr.lst (SqL.of upd_same) ((WrA.dats rx).up (ex_new hg))) q
theorem rc_tupF {Ψ : W → Mu → Prop} (q : Ψ (.dat (.tup ds)) μ) : RC E (rTupleOf E.K) [.dat (.lst ds)] μ Ψ := fun G H S vs rs Q k => by
  cases rs with
  | cons r t =>
    cases t
    cases r with
    | lst h1 h2 =>
      refine ⟨_, _, rfl, .inl ⟨Evl.ex_l S.gh h1, fun l hl => ?_⟩⟩
      have hg := S.gnone hl
      exact k _ (.dat (.tup ds)) _ _ μ (S.newF hl) (.newF S hl) (Dr.tup (SqT.of upd_same) (h2.up (ex_new hg))) q
end
/-! ### displays -/
/-- all are data -/
def undat : List W → Option (List D)
  | [] => some []
  | .dat d :: r => (undat r).map (d :: ·)
  | .at _ :: _ => none
theorem undat_ws : ∀ {ws : List W} {ds : List D}, undat ws = some ds → ws = ds.map .dat
  | [], _, h => by cases h; rfl
  | .dat d :: r, ds, h => by
    cases e : undat r with
    | none => rw [undat, e] at h; cases h
    | some es =>
      rw [undat, e] at h
      cases h
      rw [undat_ws e]; rfl
  | .at _ :: _, _, h => by cases h
section
variable {E : En} {ε : Ep} {μ : Mu} {tA : TA} {Ψ : W → Mu → Prop}
/-- a new tuple -/
def DT (ws : List W) (μ : Mu) (Ψ : W → Mu → Prop) : Prop := ∃ ds, undat ws = some ds ∧ ds.length ≤ sizeLine ∧ Ψ (.dat (.tup ds)) μ
/-- a new list: frozen | owned -/
def DL (ws : List W) (μ : Mu) (Ψ : W → Mu → Prop) : Prop := (∃ ds, undat ws = some ds ∧ ds.length ≤ sizeLine ∧ Ψ (.dat (.lst ds)) μ) ∨ (ws.length ≤ sizeLine ∧ ∀ l, Ψ (.at l) ((l, .lst ws) :: μ))
theorem re_tup (h : RA E tA ε μ fun ws μ1 => DT ws μ1 Ψ) : RE E (tTup tA) ε μ Ψ := fun σ G H C X Q k => h σ G H C X _ fun vs ws G1 H1 μ1 S1 s1 rs ⟨ds, hu, hz, q⟩ => by
  have e := undat_ws hu
  subst e
  have ra := WrA.dats rs
  refine ⟨by rw [ra.length]; exact hz, fun p hp => ?_⟩
  have hg := S1.gnone hp
  exact k _ (.dat (.tup ds)) _ _ μ1 (S1.newF hp) (s1.trans (.newF S1 hp)) (Dr.tup (SqT.of upd_same) (ra.up (ex_new hg))) q
theorem re_lst (h : RA E tA ε μ fun ws μ1 => DL ws μ1 Ψ) : RE E (tLst tA) ε μ Ψ := fun σ G H C X Q k => h σ G H C X _ fun vs ws G1 H1 μ1 S1 s1 rs hq => by
  rcases hq with ⟨ds, hu, hz, q⟩ | ⟨hz, q⟩
  · have e := undat_ws hu
    subst e
    have ra := WrA.dats rs
    refine ⟨by rw [ra.length]; exact hz, fun p hp => ?_⟩
    have hg := S1.gnone hp
    exact k _ (.dat (.lst ds)) _ _ μ1 (S1.newF hp) (s1.trans (.newF S1 hp)) (Dr.lst (SqL.of upd_same) (ra.up (ex_new hg))) q
  · refine ⟨by rw [Paired.length rs]; exact hz, fun p hp => ?_⟩
    exact k _ (.at p) _ _ _ (S1.newO (c := .lst ws) hp (show WrA _ _ _ _ from rs)) (s1.trans (.newO S1 hp)) rfl (q p)
theorem dl_f {ws : List W} {ds : List D} (hu : undat ws = some ds) (hz : ds.length ≤ sizeLine) (q : Ψ (.dat (.lst ds)) μ) : DL ws μ Ψ := .inl ⟨ds, hu, hz, q⟩
theorem dl_o {ws : List W} (hz : ws.length ≤ sizeLine) (q : ∀ l, Ψ (.at l) ((l, .lst ws) :: μ)) : DL ws μ Ψ := .inr ⟨hz, q⟩
end
/-! ### statements -/
section
variable {E : En} {ε : Ep} {μ : Mu} {te ta tb : TE} {tA : TA} {tt : TT} {t u : TS} {g : TG} {gs : TGs} {Φ : Fi} {w : W} {ws : List W} {b : Bool} {i k : Nat} {l : Addr}
theorem rs_seq (h : RS E t ε μ { Φ with nx := fun ε' μ' => RS E u ε' μ' Φ }) : RS E (tSeq t u) ε μ Φ := fun σ G H C X D T =>
  h σ G H C X { D with nx := u D } ⟨fun σ' ε' G' H' μ' S s q => q σ' G' H' S (X.to s) D (T.to s), T.rt, T.bk, T.ct⟩
theorem rs_next (h : Φ.nx ε μ) : RS E tNext ε μ Φ := fun σ G H C X D T => T.nx σ ε G H μ C (.refl μ G H) h
theorem rs_brk (h : Φ.bk ε μ) : RS E tBreak ε μ Φ := fun σ G H C X D T => T.bk σ ε G H μ C (.refl μ G H) h
theorem rs_cont (h : Φ.ct ε μ) : RS E tCont ε μ Φ := fun σ G H C X D T => T.ct σ ε G H μ C (.refl μ G H) h
theorem rs_ret (h : RE E te ε μ Φ.rt) : RS E (tRet te) ε μ Φ := fun σ G H C X D T => h σ G H C X D.rt T.rt
theorem rs_retN (h : Φ.rt .n μ) : RS E tRetN ε μ Φ := fun σ G H C X D T => T.rt .non .n G H μ C.hold (.refl μ G H) Dr.non h
theorem rs_drop (h : RE E te ε μ fun _ μ' => Φ.nx ε μ') : RS E (tDrop te) ε μ Φ := fun σ G H C X D T => h σ G H C X _ fun v w G' H' μ' S s r q => T.nx σ ε G' H' μ' (C.to S s) s q
theorem rs_if (h : RT E tt ε μ fun b μ1 => (b = true → RS E t ε μ1 Φ) ∧ (b = false → RS E u ε μ1 Φ)) : RS E (tIfS tt t u) ε μ Φ := fun σ G H C X D T => h σ G H C X _ fun b G1 H1 μ1 S s q => by
  cases b with
  | true => exact q.1 rfl σ G1 H1 (C.to S s) (X.to s) D (T.to s)
  | false => exact q.2 rfl σ G1 H1 (C.to S s) (X.to s) D (T.to s)
theorem rs_ifv (h : VT E tt ε μ b) (h1 : b = true → RS E t ε μ Φ) (h2 : b = false → RS E u ε μ Φ) : RS E (tIfS tt t u) ε μ Φ := rs_if (rt_v h ⟨h1, h2⟩)
theorem rs_asg (h : RE E te ε μ fun w μ' => RG E g w ε μ' Φ.nx) : RS E (tAsg te g) ε μ Φ := fun σ G H C X D T => h σ G H C X _ fun v w G1 H1 μ1 S s r q =>
  q σ G1 H1 (C.to S s) v r _ fun σ' ε' G' H' μ' S' s' q' => T.nx σ' ε' G' H' μ' S' (s.trans s') q'
theorem rg_name {ε' : Ep} {Ψ : Ep → Mu → Prop} (he : ε.set i (some w) = ε') (h : Ψ ε' μ) : RG E (gName i) w ε μ Ψ := fun σ G H C v r Q q => q _ ε' G H μ ⟨C.hold, he ▸ C.slots.set i r⟩ (.refl μ G H) h
theorem rgs_nil {Ψ : Ep → Mu → Prop} (h : Ψ ε μ) : RGs E gNil [] ε μ Ψ := fun σ G H C vs rs Q q => by
  cases rs
  exact ⟨rfl, q σ ε G H μ C (.refl μ G H) h⟩
theorem rgs_cons {Ψ : Ep → Mu → Prop} (h : RG E g w ε μ fun ε' μ' => RGs E gs ws ε' μ' Ψ) : RGs E (gCons g gs) (w :: ws) ε μ Ψ := fun σ G H C vs rs Q q => by
  cases rs with
  | @cons v _ vr _ r t =>
    exact ⟨v, vr, rfl, h σ G H C v r _ fun σ1 ε1 G1 H1 μ1 S1 s1 h1 => h1 σ1 G1 H1 S1 vr (WrA.up t s1.gg) Q fun σ2 ε2 G2 H2 μ2 S2 s2 q2 => q σ2 ε2 G2 H2 μ2 S2 (s1.trans s2) q2⟩
theorem rg_tup {ds : List D} {n : Nat} {Ψ : Ep → Mu → Prop} (hn : ds.length = n) (h : RGs E gs (ds.map .dat) ε μ Ψ) : RG E (gTup E.K n gs) (.dat (.tup ds)) ε μ Ψ := fun σ G H C v r Q q => by
  cases r with
  | tup hs ha => exact ⟨_, _, rfl, Evl.ex_t C.hold.gh hs, by rw [ha.length, hn], h σ G H C _ ha.ws Q q⟩
theorem rs_par {j : Nat} {w1 w2 : W} {ε' : Ep} (h : RA E tA ε μ fun ws μ' => ∃ w1 w2, ws = [w1, w2] ∧ Φ.nx ((ε.set i (some w1)).set j (some w2)) μ') : RS E (tPar i j tA) ε μ Φ := fun σ G H C X D T => h σ G H C X _ fun vs ws G1 H1 μ1 S s r ⟨w1, w2, e, q⟩ => by
  subst e
  cases r with
  | cons r1 r => cases r with
    | cons r2 r =>
      cases r
      have C1 := C.to S s
      exact ⟨_, _, rfl, T.nx _ _ G1 H1 μ1 ⟨S, (C1.slots.set i r1).set j r2⟩ s q⟩
/-- i, j = a, b where both sides are plain values -/
theorem rs_parv {j : Nat} {w1 w2 : W} {ε' : Ep} (h : VA E tA ε μ [w1, w2]) (he : (ε.set i (some w1)).set j (some w2) = ε') (q : Φ.nx ε' μ) : RS E (tPar i j tA) ε μ Φ := rs_par (w1 := w1) (w2 := w2) (ε' := ε') (ra_v h ⟨w1, w2, rfl, he ▸ q⟩)
theorem rs_setv {ε' : Ep} (h : VE E te ε μ w) (he : ε.set i (some w) = ε') (q : Φ.nx ε' μ) : RS E (tAsg te (gName i)) ε μ Φ := rs_asg (re_v h (rg_name he q))
theorem rs_retv (h : VE E te ε μ w) (q : Φ.rt w μ) : RS E (tRet te) ε μ Φ := rs_ret (re_v h q)
/-- xs[i] = e -/
theorem rs_setItem (h : RE E te ε μ fun w μ1 => ∃ (k : Nat) (l : Addr) (ws : List W) (i : Int) (j : Nat), VE E ta ε μ1 (.at l) ∧ VE E tb ε μ1 (.i i) ∧ μ1[k]? = some (l, .lst ws) ∧ ixN ws.length i = some j ∧ Φ.nx ε (μ1.set k (l, .lst (ws.set j w)))) : RS E (tAsg te (gSub ta tb rSetL)) ε μ Φ :=
  fun σ G H C X D T => h σ G H C X _ fun v w G1 H1 μ1 S s r ⟨k, l, ws, i, j, va, vb, hk, hj, q⟩ => by
    have C1 := C.to S s
    refine va σ G1 H1 C1 _ fun v1 r1 => vb σ G1 H1 C1 _ fun v2 r2 => ?_
    cases r1; cases r2
    obtain ⟨_, xs, hx, rx⟩ := S.lst hk
    refine ⟨l, xs, i, j, rfl, rfl, hx, by rw [Paired.length rx]; exact hj, ?_⟩
    have S2 := S.write (o := .lst (xs.set j v)) (c' := .lst (ws.set j w)) hk (show WrA _ _ _ _ from WrA.set r j rx)
    have s2 : Since μ1 G1 H1 G1 (upd H1 l (.lst (xs.set j v))) (μ1.set k (l, .lst (ws.set j w))) := .write S hk
    exact T.nx σ ε G1 _ _ ⟨S2, C1.slots⟩ (s.trans s2) q
/-- xs[i] = e, all of them plain values -/
theorem rs_setItemV {i : Int} {j : Nat} {μ' : Mu} (h : VE E te ε μ w) (va : VE E ta ε μ (.at l)) (vb : VE E tb ε μ (.i i)) (hk : μ[k]? = some (l, .lst ws)) (hj : ixN ws.length i = some j) (hm : μ.set k (l, .lst (ws.set j w)) = μ') (q : Φ.nx ε μ') : RS E (tAsg te (gSub ta tb rSetL)) ε μ Φ :=
  rs_setItem (re_v h ⟨k, l, ws, i, j, va, vb, hk, hj, hm ▸ q⟩)
theorem rs_setItem0 {i : Int} {j : Nat} {μ' : Mu} (h : VE E te ε μ w) (va : VE E ta ε μ (.at l)) (vb : VE E tb ε μ (.i i)) (hk : μ[0]? = some (l, .lst ws)) (hj : ixN ws.length i = some j) (hm : μ.set 0 (l, .lst (ws.set j w)) = μ') (q : Φ.nx ε μ') : RS E (tAsg te (gSub ta tb rSetL)) ε μ Φ := rs_setItemV h va vb hk hj hm q
theorem rs_setItem1 {i : Int} {j : Nat} {μ' : Mu} (h : VE E te ε μ w) (va : VE E ta ε μ (.at l)) (vb : VE E tb ε μ (.i i)) (hk : μ[1]? = some (l, .lst ws)) (hj : ixN ws.length i = some j) (hm : μ.set 1 (l, .lst (ws.set j w)) = μ') (q : Φ.nx ε μ') : RS E (tAsg te (gSub ta tb rSetL)) ε μ Φ := rs_setItemV h va vb hk hj hm q
theorem rs_setItem2 {i : Int} {j : Nat} {μ' : Mu} (h : VE E te ε μ w) (va : VE E ta ε μ (.at l)) (vb : VE E tb ε μ (.i i)) (hk : μ[2]? = some (l, .lst ws)) (hj : ixN ws.length i = some j) (hm : μ.set 2 (l, .lst (ws.set j w)) = μ') (q : Φ.nx ε μ') : RS E (tAsg te (gSub ta tb rSetL)) ε μ Φ := rs_setItemV h va vb hk hj hm q
theorem rs_cut (J : Ep → Mu → Prop) (h1 : RS E t ε μ { Φ with nx := J }) (h2 : ∀ ε' μ', J ε' μ' → RS E u ε' μ' Φ) : RS E (tSeq t u) ε μ Φ := rs_seq (rs_mono h1 h2 (fun _ _ q => q) (fun _ _ q => q) fun _ _ q => q)
theorem rs_to (J : Ep → Mu → Prop) (h1 : RS E t ε μ { Φ with nx := J }) (h2 : ∀ ε' μ', J ε' μ' → Φ.nx ε' μ') : RS E t ε μ Φ := rs_mono h1 h2 (fun _ _ q => q) (fun _ _ q => q) fun _ _ q => q
/-- l.append(e) -/
theorem rs_append (va : VE E ta ε μ (.at l)) (h0 : μ[k]? = some (l, .lst ws)) (h : RE E te ε μ fun w μ1 => ∃ (k : Nat) (ws : List W), μ1[k]? = some (l, .lst ws) ∧ ws.length < sizeLine ∧ Φ.nx ε (μ1.set k (l, .lst (ws ++ [w])))) : RS E (tDrop (tBM E.K "list" rAppend ta (tCons te tNil))) ε μ Φ :=
  fun σ G H C X D T => va σ G H C _ fun v1 r1 => by
    cases r1
    obtain ⟨_, xs0, hx0, _⟩ := C.hold.lst h0
    refine ⟨Or.inl ⟨rfl, xs0, SqL.of hx0⟩, ?_⟩
    refine h σ G H C X _ fun v w G1 H1 μ1 S s r ⟨k, ws, hk, hz, q⟩ => ?_
    obtain ⟨_, xs, hx, rx⟩ := S.lst hk
    refine ⟨l, xs, v, rfl, rfl, hx, by rw [Paired.length rx]; exact hz, ?_⟩
    have S2 := S.write (o := .lst (xs ++ [v])) (c' := .lst (ws ++ [w])) hk (show WrA _ _ _ _ from WrA.snoc r rx)
    have s2 : Since μ1 G1 H1 G1 (upd H1 l (.lst (xs ++ [v]))) (μ1.set k (l, .lst (ws ++ [w]))) := .write S hk
    exact T.nx σ ε G1 _ _ ⟨S2, (C.to S s).slots⟩ (s.trans s2) q
/-- l.pop() -/
theorem re_pop {Ψ : W → Mu → Prop} (va : VE E ta ε μ (.at l)) (hk : μ[k]? = some (l, .lst ws)) (hw : ws[ws.length - 1]? = some w) (q : Ψ w (μ.set k (l, .lst ws.dropLast))) : RE E (tBM0 E.K "list" rPop ta) ε μ Ψ := fun σ G H C X Q kq => va σ G H C _ fun v1 r1 => by
  cases r1
  obtain ⟨_, xs, hx, rx⟩ := C.hold.lst hk
  refine ⟨Or.inl ⟨rfl, xs, SqL.of hx⟩, ?_⟩
  obtain ⟨v, hv, rv⟩ := WrA.get rx (i := ws.length - 1) hw
  refine ⟨l, xs, v, rfl, rfl, hx, by rw [Paired.length rx]; exact hv, ?_⟩
  exact kq v w G _ _ (C.hold.write (o := .lst xs.dropLast) (c' := .lst ws.dropLast) hk (show WrA _ _ _ _ from WrA.dropLast rx)) (.write C.hold hk) rv q
end
/-! ### loops -/
section
variable {E : En} {ε : Ep} {μ : Mu} {te : TE} {tA : TA} {tt : TT} {t : TS} {g : TG} {Φ : Fi} {j : Nat}
/-- what a turn comes to -/
abbrev Fi.turn (Φ : Fi) (P : Ep → Mu → Prop) : Fi := { nx := P, rt := Φ.rt, bk := Φ.nx, ct := P }
theorem turn_ties {E : En} {μ μ1 : Mu} {G H G1 H1 : Hp} {Φ : Fi} {D : Ends} {P : Ep → Mu → Prop} {N : L2.St → Hp → Prop} (T : Ties E μ G H Φ D) (s : Since μ G H G1 H1 μ1)
    (hN : ∀ σ' ε' G' H' μ', St E.K σ' ε' G' H' μ' → Since μ1 G1 H1 G' H' μ' → P ε' μ' → N σ' H') : Ties E μ1 G1 H1 (Φ.turn P) { D with nx := N, ct := N, bk := D.nx } :=
  ⟨hN, fun v w G' H' μ' S s' r q => T.rt v w G' H' μ' S (s.trans s') r q, fun σ' ε' G' H' μ' S s' q => T.nx σ' ε' G' H' μ' S (s.trans s') q, hN⟩
/-- for j in range(n) -/
theorem rs_forR1 {n : Int} (P : Nat → Ep → Mu → Prop) (hv : VA E tA ε μ [.i n]) (hn : n < 2 ^ 62) (hn0 : -(2 ^ 62) ≤ n) (h0 : P 0 ε μ)
    (hs : ∀ (i : Nat) ε' μ', (i : Int) < n → P i ε' μ' → RS E t (ε'.set j (some (.i (i : Int)))) μ' (Φ.turn (P (i + 1)))) (hd : ∀ ε' μ', P n.toNat ε' μ' → Φ.nx ε' μ') : RS E (tFor (iRng1 tA) (gName j) t) ε μ Φ := fun σ G H C X D T => hv σ G H C _ fun vs rs => by
  cases rs with
  | cons r r2 =>
    cases r; cases r2
    refine ⟨n, rfl, hn0, hn, for_range (lo := 0) (n := n.toNat) (fun i σ' H' => ∃ ε' G' μ', St E.K σ' ε' G' H' μ' ∧ Since μ G H G' H' μ' ∧ P i ε' μ') ⟨ε, G, μ, C, .refl μ G H, h0⟩ ?_ ?_⟩
    · rintro i σ' H' hi ⟨ε', G', μ', C', s', p⟩
      have e0 : (0 : Int) + (i : Int) = (i : Int) := Int.zero_add _
      show t _ (σ'.set j (some (.int ((0 : Int) + (i : Int))))) H'
      rw [e0]
      exact hs i ε' μ' (by omega) p _ G' H' ⟨C'.hold, C'.slots.set j (show Wr E.K G' (.int (i : Int)) (.i (i : Int)) from Dr.int _)⟩ (X.to s') _ (turn_ties T s' fun σ2 ε2 G2 H2 μ2 S2 s2 q => ⟨ε2, G2, μ2, S2, s'.trans s2, q⟩)
    · rintro σ' H' ⟨ε', G', μ', C', s', p⟩
      exact T.nx σ' ε' G' H' μ' C' s' (hd ε' μ' p)
/-- for j in range(lo, n) -/
theorem rs_forR2 {lo n : Int} (P : Nat → Ep → Mu → Prop) (hv : VA E tA ε μ [.i lo, .i n]) (hb : -(2 ^ 62) ≤ lo ∧ lo < 2 ^ 62 ∧ -(2 ^ 62) ≤ n ∧ n < 2 ^ 62) (h0 : P 0 ε μ)
    (hs : ∀ (i : Nat) ε' μ', lo + (i : Int) < n → P i ε' μ' → RS E t (ε'.set j (some (.i (lo + (i : Int))))) μ' (Φ.turn (P (i + 1)))) (hd : ∀ ε' μ', P (n - lo).toNat ε' μ' → Φ.nx ε' μ') : RS E (tFor (iRng2 tA) (gName j) t) ε μ Φ := fun σ G H C X D T => hv σ G H C _ fun vs rs => by
  cases rs with
  | cons r r2 =>
    cases r2 with
    | cons r3 r4 =>
      cases r; cases r3; cases r4
      refine ⟨lo, n, rfl, hb, for_range (lo := lo) (n := (n - lo).toNat) (fun i σ' H' => ∃ ε' G' μ', St E.K σ' ε' G' H' μ' ∧ Since μ G H G' H' μ' ∧ P i ε' μ') ⟨ε, G, μ, C, .refl μ G H, h0⟩ ?_ ?_⟩
      · rintro i σ' H' hi ⟨ε', G', μ', C', s', p⟩
        exact hs i ε' μ' (by omega) p _ G' H' ⟨C'.hold, C'.slots.set j (show Wr E.K G' (.int (lo + (i : Int))) (.i (lo + (i : Int))) from Dr.int _)⟩ (X.to s') _ (turn_ties T s' fun σ2 ε2 G2 H2 μ2 S2 s2 q => ⟨ε2, G2, μ2, S2, s'.trans s2, q⟩)
      · rintro σ' H' ⟨ε', G', μ', C', s', p⟩
        exact T.nx σ' ε' G' H' μ' C' s' (hd ε' μ' p)
/-- for g in a frozen list -/
theorem rs_forL (P : Nat → Ep → Mu → Prop) (hv : RE E te ε μ fun w μ1 => ∃ ds, w = .dat (.lst ds) ∧ P 0 ε μ1 ∧
      (∀ (i : Nat) d ε' μ', ds[i]? = some d → P i ε' μ' → RG E g (.dat d) ε' μ' fun ε2 μ2 => RS E t ε2 μ2 (Φ.turn (P (i + 1)))) ∧ ∀ ε' μ', P ds.length ε' μ' → Φ.nx ε' μ') : RS E (tFor (iList E.K te) g t) ε μ Φ := fun σ G H C X D T => hv σ G H C X _ fun v w G1 H1 μ1 S1 s1 r ⟨ds, e, h0, hs, hd⟩ => by
  subst e
  cases r with
  | @lst a xs _ hq ha =>
    refine ⟨a, rfl, ⟨xs, Evl.ex_l S1.gh hq⟩, for_list (K := E.K) (a := a) (xs := xs) (fun i σ' H' => ∃ ε' G' μ', St E.K σ' ε' G' H' μ' ∧ Since μ1 G1 H1 G' H' μ' ∧ P i ε' μ') ⟨ε, G1, μ1, C.to S1 s1, .refl μ1 G1 H1, h0⟩ ?_ ?_ ?_⟩
    · rintro i σ' H' _ ⟨ε', G', μ', C', s', p⟩
      exact Evl.ex_l C'.hold.gh (Evl.ex_l s'.gg hq)
    · rintro i x σ' H' hx ⟨ε', G', μ', C', s', p⟩
      obtain ⟨d, hd1, rd⟩ := ha.get' hx
      exact hs i d ε' μ' hd1 p σ' G' H' C' x (show Wr E.K G' x (.dat d) from rd.up s'.gg) _ fun σ2 ε2 G2 H2 μ2 S2 s2 q => q σ2 G2 H2 S2 (X.to (s1.trans (s'.trans s2))) _ (turn_ties T (s1.trans (s'.trans s2)) fun σ3 ε3 G3 H3 μ3 S3 s3 q3 => ⟨ε3, G3, μ3, S3, (s'.trans s2).trans s3, q3⟩)
    · rintro σ' H' ⟨ε', G', μ', C', s', p⟩
      rw [ha.length] at p
      exact T.nx σ' ε' G' H' μ' C' (s1.trans s') (hd ε' μ' p)
/-- for g in a tuple -/
theorem rs_forT (P : Nat → Ep → Mu → Prop) (hv : RE E te ε μ fun w μ1 => ∃ ds, w = .dat (.tup ds) ∧ P 0 ε μ1 ∧
      (∀ (i : Nat) d ε' μ', ds[i]? = some d → P i ε' μ' → RG E g (.dat d) ε' μ' fun ε2 μ2 => RS E t ε2 μ2 (Φ.turn (P (i + 1)))) ∧ ∀ ε' μ', P ds.length ε' μ' → Φ.nx ε' μ') : RS E (tFor (iTup E.K te) g t) ε μ Φ := fun σ G H C X D T => hv σ G H C X _ fun v w G1 H1 μ1 S1 s1 r ⟨ds, e, h0, hs, hd⟩ => by
  subst e
  cases r with
  | @tup a xs _ hq ha =>
    refine ⟨a, rfl, ⟨xs, Evl.ex_t S1.gh hq⟩, for_tup (K := E.K) (a := a) (xs := xs) (fun i σ' H' => ∃ ε' G' μ', St E.K σ' ε' G' H' μ' ∧ Since μ1 G1 H1 G' H' μ' ∧ P i ε' μ') ⟨ε, G1, μ1, C.to S1 s1, .refl μ1 G1 H1, h0⟩ ?_ ?_ ?_⟩
    · rintro i σ' H' _ ⟨ε', G', μ', C', s', p⟩
      exact Evl.ex_t C'.hold.gh (Evl.ex_t s'.gg hq)
    · rintro i x σ' H' hx ⟨ε', G', μ', C', s', p⟩
      obtain ⟨d, hd1, rd⟩ := ha.get' hx
      exact hs i d ε' μ' hd1 p σ' G' H' C' x (show Wr E.K G' x (.dat d) from rd.up s'.gg) _ fun σ2 ε2 G2 H2 μ2 S2 s2 q => q σ2 G2 H2 S2 (X.to (s1.trans (s'.trans s2))) _ (turn_ties T (s1.trans (s'.trans s2)) fun σ3 ε3 G3 H3 μ3 S3 s3 q3 => ⟨ε3, G3, μ3, S3, (s'.trans s2).trans s3, q3⟩)
    · rintro σ' H' ⟨ε', G', μ', C', s', p⟩
      rw [ha.length] at p
      exact T.nx σ' ε' G' H' μ' C' (s1.trans s') (hd ε' μ' p)
/-- while: a word with a measure -/
theorem rs_while (P : Nat → Ep → Mu → Prop) (m0 : Nat) (h0 : P m0 ε μ)
    (hs : ∀ m ε' μ', P m ε' μ' → ∃ b, VT E tt ε' μ' b ∧ (b = true → RS E t ε' μ' (Φ.turn fun ε2 μ2 => ∃ m', m' < m ∧ P m' ε2 μ2)) ∧ (b = false → Φ.nx ε' μ')) : RS E (tWhile tt t) ε μ Φ := fun σ G H C X D T =>
  ⟨fun m σ' H' => ∃ ε' G' μ', St E.K σ' ε' G' H' μ' ∧ Since μ G H G' H' μ' ∧ P m ε' μ', ⟨m0, ε, G, μ, C, .refl μ G H, h0⟩, by
    rintro m σ' H' ⟨ε', G', μ', C', s', p⟩
    obtain ⟨b, hb, h1, h2⟩ := hs m ε' μ' p
    refine hb σ' G' H' C' _ ?_
    cases b with
    | true =>
      refine ⟨fun σ2 H2 => ∃ m', m' < m ∧ ∃ ε' G' μ', St E.K σ2 ε' G' H2 μ' ∧ Since μ G H G' H2 μ' ∧ P m' ε' μ', fun _ _ q => q, ?_⟩
      exact h1 rfl σ' G' H' C' (X.to s') _ (turn_ties T s' fun σ2 ε2 G2 H2 μ2 S2 s2 ⟨m', hm, q⟩ => ⟨m', hm, ε2, G2, μ2, S2, s'.trans s2, q⟩)
    | false => exact T.nx σ' ε' G' H' μ' C' s' (h2 rfl)⟩
end
/-! ### calls -/
/-- a promise at the level of data: arguments, owned objects, what is wanted of the result, of an exception -/
abbrev FS := List W → Mu → (W → Mu → Prop) → (Value → List (Str × D) → Mu → Prop) → Prop
def spF (K : PySem.W.Frag) (F : FS) : Sp := fun vs H Q E => ∃ (G : Hp) (ws : List W) (μ : Mu) (R : W → Mu → Prop) (X : Value → List (Str × D) → Mu → Prop), Hold K G H μ ∧ WrA K G vs ws ∧ F ws μ R X ∧
  (∀ v w G' H' μ', Hold K G' H' μ' → Since μ G H G' H' μ' → Wr K G' v w → R w μ' → Q v H') ∧
  (∀ cls d fs G' H' μ', Hold K G' H' μ' → Since μ G H G' H' μ' → ExAt K H G' H' d fs → X cls fs μ' → E cls d H')
/-- a def that a name of the module's stands for -/
structure Fn (P : Program) (w : World) (K : PySem.W.Frag) (mg : Str → Option Value) (base : Heap) (x : Str) (k : Nat) (ps : List Str) (F : FS) : Prop where
  ex : ∃ (f : Addr) (fd : FuncData), mg x = some (.ref f) ∧ PySem.W.keepIn K (.ref f) = true ∧ (∀ (s : Shared) (us : List Value), us.length = ps.length → BindsTo s fd ⟨us, []⟩ (ps.zip us)) ∧ FnOk P w K mg base (L2.CX P w) k f fd ps (spF K F) ∧ ∃ o, K.lookup f = some o ∧ o.data = .func fd
theorem binds_of {K : PySem.W.Frag} {fd : FuncData} {ps : List Str} (h : ∀ (s : Shared) (us : List Value), us.length = ps.length → BindsTo s fd ⟨us, []⟩ (ps.zip us)) : Binds K fd ps [] := fun s us _ hl => by
  rw [List.append_nil] at hl ⊢
  exact h s us hl
/-- f(e, ..) as CallF asks it: the callee sees the owned objects from the n-th on -/
def CallF (E : En) (F : FS) (ws : List W) (ε : Ep) (μ : Mu) (Ψ : W → Mu → Prop) : Prop := ∃ n, F ws (μ.drop n) (fun w μ' => Ψ w (μ.take n ++ μ')) fun cls fs μ' => E.χ ε cls fs (μ.take n ++ μ')
theorem re_call {E : En} {F : FS} {tA : TA} {ε : Ep} {μ : Mu} {Ψ : W → Mu → Prop} (h : RA E tA ε μ fun ws μ1 => CallF E F ws ε μ1 Ψ) : RE E (tCallS (spF E.K F) (WE E.W) tA) ε μ Ψ := fun σ G H C X Q k =>
  h σ G H C X _ fun vs ws G1 H1 μ1 S1 s1 rs ⟨n, hF⟩ => by
    refine ⟨G1, ws, μ1.drop n, _, _, S1.tail n, rs, hF, fun v w G' H' μ' S' s' r q => ?_, fun cls d fs G' H' μ' S' s' e q => ?_⟩
    · exact k v w G' H' _ (S1.frame n S' s') (s1.trans (.frame (K := E.K) n s')) r q
    · have s2 := s1.trans (Since.frame (K := E.K) n s')
      exact X σ ε G' H' _ cls d fs (C.to (S1.frame n S' s') s2) s2 (e.back s1) q
/-- .. the arguments given by values and keywords -/
theorem re_callK {E : En} {F : FS} {tA tK : TA} {gV : List V → List V → List V} {gW : List W → List W → List W} {ε : Ep} {μ : Mu} {Ψ : W → Mu → Prop} (hg : ∀ (K : PySem.W.Frag) (G : Hp) vs zs ws us, WrA K G vs ws → WrA K G zs us → WrA K G (gV vs zs) (gW ws us)) 
    (h : RA E tA ε μ fun ws μ1 => RA E tK ε μ1 fun us μ2 => CallF E F (gW ws us) ε μ2 Ψ) : RE E (fun σ H Q => tA σ H fun vs H1 => tK σ H1 fun zs H2 => spF E.K F (gV vs zs) H2 Q (WE E.W σ)) ε μ Ψ := fun σ G H C X Q k =>
  h σ G H C X _ fun vs ws G1 H1 μ1 S1 s1 rs h1 => h1 σ G1 H1 (C.to S1 s1) (X.to s1) _ fun zs us G2 H2 μ2 S2 s2 rs2 ⟨n, hF⟩ => by
    refine ⟨G2, gW ws us, μ2.drop n, _, _, S2.tail n, hg E.K G2 _ _ _ _ (WrA.up rs s2.gg) rs2, hF, fun v w G' H' μ' S' s' r q => ?_, fun cls d fs G' H' μ' S' s' e q => ?_⟩
    · exact k v w G' H' _ (S2.frame n S' s') ((s1.trans s2).trans (.frame (K := E.K) n s')) r q
    · have s3 := (s1.trans s2).trans (Since.frame (K := E.K) n s')
      exact X σ ε G' H' _ cls d fs (C.to (S2.frame n S' s') s3) s3 (e.back (s1.trans s2)) q
/-- no owned object is shown to the callee -/
theorem callF0 {E : En} {F : FS} {ws : List W} {ε : Ep} {μ : Mu} {Ψ : W → Mu → Prop} (h : F ws [] (fun w μ' => Ψ w (μ ++ μ')) fun cls fs μ' => E.χ ε cls fs (μ ++ μ')) : CallF E F ws ε μ Ψ := by
  refine ⟨μ.length, ?_⟩
  rw [List.drop_length, List.take_length]
  exact h
section
variable {X : Cx} {k k' : Nat} {x : Str} {ps : List Str} {F : FS} {W : WX} {e : Expr} {es : List Expr} {t : TA} {p pos : Pos}
theorem pe_fn (h : Fn X.prog X.w X.K X.mg X.base x k ps F) (hr : Room k' X.A) (hk : k ≤ k') (hg : Gl X x) (tk : Takes X W) (ha : PA X (e :: es) t) (hdb : (x == ("__debug__" : Str)) = false := by decide)
    (he : starEach (e :: es) X.env = (false, eval e X.env) :: starEach es X.env := by rfl) (hpl : (backTo pos (starEach es X.env)).any (·.1) = false := by rfl) : PE X (.Call (.Name x p) (e :: es) [] pos) (tCallS (spF X.K F) (WE W) t) := by
  obtain ⟨f, fd, hm, hkp, hb, hf, _⟩ := h.ex
  exact pe_callS hf (hr.mono hk) hg hm hkp (binds_of hb) (fun σ => passAt tk σ) ha hdb he hpl
end
/-! ### a def -/
def startE (N : List Str) (ws : List W) : Ep := ws.map some ++ List.replicate (N.length - ws.length) none
theorem start_slots {K : PySem.W.Frag} {G : Hp} {N : List Str} {vs : List V} {ws : List W} (r : WrA K G vs ws) : Slots K G (L2.start N vs) (startE N ws) := by
  have hl := Paired.length r
  refine ⟨by unfold L2.start startE; rw [List.length_append, List.length_append, List.length_map, List.length_map, List.length_replicate, List.length_replicate, hl], fun i w hw => ?_⟩
  unfold startE at hw
  unfold L2.start
  by_cases hi : i < ws.length
  · rw [List.getElem?_append_left (by rw [List.length_map]; exact hi), List.getElem?_map] at hw
    rw [List.getElem?_append_left (by rw [List.length_map, hl]; exact hi), List.getElem?_map]
    cases e : ws[i]? with
    | none => rw [e] at hw; cases hw
    | some w' =>
      rw [e] at hw
      cases hw
      obtain ⟨v, hv, rv⟩ := WrA.get r e
      exact ⟨v, by rw [hv]; rfl, rv⟩
  · rw [List.getElem?_append_right (by rw [List.length_map]; omega)] at hw
    rw [List.getElem?_replicate] at hw
    split at hw <;> cases hw
section
variable {P : Program} {w : World} {K : PySem.W.Frag} {mg : Str → Option Value} {base : Heap} {x : Str} {st : Stmt} {N ps : List Str} {k : Nat} {F : FS} {f : Addr}
theorem fn_mk (gl : mg x = some (.ref f)) (D : ∃ fd, FunD K x x (defArgs st) (defBody st) (defScope st) [] [] f fd) (S : FnScope N ps (defScope st)) (len : ∀ ws μ R X, F ws μ R X → ws.length = ps.length)
    (hb : ∀ (kV doc pm : Value) (an : Option Addr) (cdv ct : Value) (us : List Value), us.length = ps.length → bindArgs (PySem.W.fnOf x x (defArgs st) (defBody st) (defScope st) .none kV doc pm an cdv ct) ⟨us, []⟩ = pure (ps.zip us))
    (body : ∀ (cdv : Value) (A : Around) (outer : List Env) (s : Shared) (H : Hp) (E : XK), Room k (A.deeper (envOfC x (defScope st) s.heap.objs.size f cdv)) →
      ∃ t, PSs (cxOf (L2.CX P w) P w K mg base N x (defScope st) f cdv A outer s H E) (defBody st) t ∧
        ∀ ws μ R X, F ws μ R X → RS ⟨K, fun cls d _ H => E cls d H, fun _ => X⟩ t (startE N ws) μ { nx := fun _ μ' => R .n μ', rt := R }) : Fn P w K mg base x (k + 1) ps F := by
  obtain ⟨fd, D⟩ := D
  refine ⟨f, fd, gl, D.kp, FunD.bindsA D hb, ?_, by
    obtain ⟨_, _, _, _, _, _, _, _, _, _, _, h, _⟩ := D.ex
    exact ⟨_, h, rfl⟩⟩
  refine D.ok S (fun vs H Q E h => ?_) fun cdv A outer s H vs Q E hr h => ?_
  · obtain ⟨G, ws, μ, R, X, _, r, hF, _⟩ := h
    rw [Paired.length r]; exact len ws μ R X hF
  · obtain ⟨t, ht, hs⟩ := body cdv A outer s H E hr
    refine ⟨t, ht, ?_⟩
    obtain ⟨G, ws, μ, R, X, S0, r, hF, hQ, hE⟩ := h
    exact hs ws μ R X hF (L2.start N vs) G H ⟨S0, start_slots r⟩ (fun σ ε G' H' μ' cls d fs S' s' e c => hE cls d fs G' H' μ' S'.hold s' e c) _ ⟨fun σ' ε' G' H' μ' S' s' q => hQ .non .n G' H' μ' S'.hold s' Dr.non q, fun v w G' H' μ' S' s' rv q => hQ v w G' H' μ' S' s' rv q, fun _ _ _ _ _ _ _ z => z.elim, fun _ _ _ _ _ _ _ z => z.elim⟩
end
end Sn

/-! Sn, third part: exceptions. -/
namespace Sn
open PySem PySem.Spec PyProof.Rows L2
/-! ### facts of an exception class, as tests of the written part -/
def excCB (K : PySem.W.Frag) (D : Addr) : Bool :=
  decide (PySem.W.findIn K (.ref D) "__getattribute__" = some (some (.builtin "BaseException.__getattribute__"))) && (decide (PySem.W.findIn K (.ref D) "__getattr__" = some none) &&
  (decide (PySem.W.subIn K (.ref D) (.type "BaseException") = some true) && (PySem.W.hasDictIn K D && (decide (PySem.W.findIn K (.ref D) "__class__" = some (some (.builtin "object.__class__"))) &&
  (decide (PySem.W.specialIn K (.builtin "object.__class__") "__get__" = some (some (.builtin "getset_descriptor.__get__"))) && (decide (PySem.W.takesIn K (.builtin "object.__class__") = some true) && decide (PySem.W.mroIn K D (.type "object") = some true)))))))
theorem excCB_ok {K : PySem.W.Frag} {D : Addr} (h : excCB K D = true) : ExcC K D := by
  unfold excCB at h
  simp only [Bool.and_eq_true, decide_eq_true_eq] at h
  obtain ⟨h1, h2, h3, h4, h5, h6, h7, h8⟩ := h
  exact ⟨h1, h2, h3, h4, h5, h6, h7, h8⟩
theorem excC_xf {K : PySem.W.Frag} {D : Addr} (h : ExcC K D) : XfC K D := ⟨h.hg, h.hk, h.hs, h.hd⟩
def oexB (K : PySem.W.Frag) (C : Addr) : Bool :=
  (match K.lookup C with
  | some ⟨.type c, _, .cls cd, sl⟩ => decide (c = "type") && ((match cd.mro with
    | .ref C' :: bm => decide (C' = C) && PySem.HandSPX.refsVE bm
    | _ => false) && (cd.hasDict && (!cd.hasDel && (match sl.toList with
    | [_, _, _, _, some (.builtin n), _] => decide (n = "ValueError.__new__")
    | _ => false))))
  | _ => false) && (decide (PySem.W.findIn K (.ref C) "__setattr__" = some (some (.builtin "object.__setattr__"))) && (decide (PySem.W.subIn K (.ref C) (.type "BaseException") = some true) &&
    (decide (PySem.W.typeIn K (.ref C) = some (.type "type")) && PySem.W.keepIn K (.ref C))))
theorem oexB_ok {K : PySem.W.Frag} {C : Addr} (h : oexB K C = true) : OexC K C := by
  unfold oexB at h
  rw [Bool.and_eq_true] at h
  obtain ⟨h0, h⟩ := h
  simp only [Bool.and_eq_true, decide_eq_true_eq] at h
  obtain ⟨h1, h2, h3, h4⟩ := h
  refine ⟨?_, h1, h2, h3, h4⟩
  split at h0
  · rename_i c dd cd sl e
    simp only [Bool.and_eq_true, decide_eq_true_eq, Bool.not_eq_true'] at h0
    obtain ⟨rfl, a1, a2, a3, a4⟩ := h0
    obtain ⟨nm, bs, mro, ns, qn, hd, sn, sub, ab, col, hdel⟩ := cd
    dsimp only at a1 a2 a3 a4
    subst a2 a3
    split at a1
    · rename_i C' bm
      simp only [Bool.and_eq_true, decide_eq_true_eq] at a1
      obtain ⟨rfl, a1⟩ := a1
      split at a4
      · rename_i k0 k1 k2 k3 n k5 hl
        have e5 : n = "ValueError.__new__" := of_decide_eq_true a4
        subst e5
        have es : sl = #[k0, k1, k2, k3, some (.builtin "ValueError.__new__"), k5] := by
          rw [← Array.toArray_toList (xs := sl), hl]
        subst es
        exact ⟨nm, qn, ns, bs, bm, sn, sub, ab, col, dd, k0, k1, k2, k3, k5, e, a1⟩
      · cases a4
    · cases a1
  · cases h0
/-! ### making and raising -/
section
variable {X : Cx}
/-- X(), X an own class without an own __init__ -/
theorem pmk_own0 {C : Addr} {bmB : List Value} {B newId initId : String} {x : Str} {p pos : Pos} (F : ExcBaseFacts B newId initId bmB) (q : PySem.W.excIn X.K C bmB newId = true) (gC : X.mg x = some (.ref C)) (kC : PySem.W.keepIn X.K (.ref C) = true)
    (r : Raises X (.ref C)) (hg : Gl X x) (hdb : (x == ("__debug__" : Str)) = false := by decide) : PMk X (.Call (.Name x p) [] [] pos) (fun _ H Q => Q (.ref C) none H) := by
  intro pins s σ H Q I h
  refine wpAny_Call_Name_kw (ld_glob I hg gC (PySem.W.callWith_K0 I.kIn kC ?_) hdb)
  obtain ⟨bm, N, nm, qn, bs, hdct, sn, sub, ab, col, dd, k0, k1, k2, k3, k5, mN, hC, hN, hni, T⟩ := exc_obj I.kIn q
  exact wpAny_call_exc_subT F T hC hN hni (fun h' e hm => mk_of I hm r h (I.hok.gone hm.new)) (Nat.zero_le _)
theorem ps_raise0 {C : Addr} {x : Str} {W : WX} {p pos pos2 : Pos} (hc : X.calm = true) (tk : Takes X W) (q : PySem.W.excIn X.K C He.veBase "ValueError.__new__" = true) (gC : X.mg x = some (.ref C)) (kC : PySem.W.keepIn X.K (.ref C) = true)
    (h1 : PySem.W.subIn X.K (.ref C) (.type "BaseException") = some true) (h2 : PySem.W.typeIn X.K (.ref C) = some (.type "type")) (hg : Gl X x) (hdb : (x == ("__debug__" : Str)) = false := by decide) :
    PS X (.Raise (some (.Call (.Name x p) [] [] pos)) none pos2) (fun _ σ H => W (.ref C) none σ H) := ps_raise hc tk (pmk_own0 PySem.F.excBase_ValueError q gC kC (raises_own h1 h2) hg hdb)
end
/-- raise C() -/
def tRs0 (C : Addr) (W : WX) : TS := fun _ σ H => W (.ref C) none σ H
theorem rs_raise0 {E : En} {C : Addr} {ε : Ep} {μ : Mu} {Φ : Fi} (h : E.χ ε (.ref C) [] μ) : RS E (tRs0 C E.W) ε μ Φ := fun σ G H S X D T => X σ ε G H μ _ _ _ S (.refl μ G H) (.inl ⟨rfl, rfl⟩) h
/-! #### classes whose __init__ keeps one field, two fields -/
/-- __init__(self, f): self.f = f -/
def spIn1 (K : PySem.W.Frag) (f : Str) : Sp := fun vs H Q _ => ∃ (a C : Addr) (v : V), vs = [.ref a, v] ∧ OexC K C ∧ PySem.W.findIn K (.ref C) f = some none ∧ H a = some (exo a C none) ∧
  ∀ d, H d = none → d ≠ a → Q .non (upd (upd H d (exd d [(f, v)])) a (exo a C (some d)))
def spIn2 (K : PySem.W.Frag) (f g : Str) : Sp := fun vs H Q _ => ∃ (a C : Addr) (v u : V), vs = [.ref a, v, u] ∧ OexC K C ∧ PySem.W.findIn K (.ref C) f = some none ∧ PySem.W.findIn K (.ref C) g = some none ∧ H a = some (exo a C none) ∧
  ∀ d, H d = none → d ≠ a → Q .non (upd (upd (upd H d (exd d [(f, v)])) a (exo a C (some d))) d (exd d [(g, u), (f, v)]))
section
variable {P : Program} {w : World} {K : PySem.W.Frag} {mg : Str → Option Value} {base : Heap} {st : Stmt} {q f g : Str} {fI : Addr} {fd : FuncData}
theorem init1_ok (D : FunD K "__init__" q (defArgs st) (defBody st) (defScope st) [] [] fI fd) (S : FnScope ["self", f] ["self", f] (defScope st))
    (hb : ∀ (cdv : Value) (A : Around) (outer : List Env) (s : Shared) (H : Hp) (E : XK), PSs (cxOf CX0 P w K mg base ["self", f] q (defScope st) fI cdv A outer s H E).nox (defBody st) (tOst K f (tVar 0) (tVar 1))) : FnOk P w K mg base CX0 1 fI fd ["self", f] (spIn1 K f) := by
  refine D.ok S (fun vs H Q E h => ?_) fun cdv A outer s H vs Q E hr h => ⟨_, (hb cdv A outer s H E).nox, ?_⟩
  · obtain ⟨a, C, v, rfl, _⟩ := h
    rfl
  · obtain ⟨a, C, v, rfl, T, hf, ha, k⟩ := h
    exact ⟨v, rfl, _, rfl, a, C, rfl, T, hf, .inl ⟨ha, fun d hd hn => k d hd hn⟩⟩
theorem init2_ok (D : FunD K "__init__" q (defArgs st) (defBody st) (defScope st) [] [] fI fd) (S : FnScope ["self", f, g] ["self", f, g] (defScope st))
    (hb : ∀ (cdv : Value) (A : Around) (outer : List Env) (s : Shared) (H : Hp) (E : XK), PSs (cxOf CX0 P w K mg base ["self", f, g] q (defScope st) fI cdv A outer s H E).nox (defBody st) (tSeq (tOst K f (tVar 0) (tVar 1)) (tOst K g (tVar 0) (tVar 2)))) : FnOk P w K mg base CX0 1 fI fd ["self", f, g] (spIn2 K f g) := by
  refine D.ok S (fun vs H Q E h => ?_) fun cdv A outer s H vs Q E hr h => ⟨_, (hb cdv A outer s H E).nox, ?_⟩
  · obtain ⟨a, C, v, u, rfl, _⟩ := h
    rfl
  · obtain ⟨a, C, v, u, rfl, T, hf, hg, ha, k⟩ := h
    refine ⟨v, rfl, _, rfl, a, C, rfl, T, hf, .inl ⟨ha, fun d hd hn => ?_⟩⟩
    refine ⟨u, rfl, _, rfl, a, C, rfl, T, hg, .inr ⟨d, [(f, v)], upd_same, by rw [upd_ne hn, upd_same], by show 1 ≤ 900; decide, k d hd hn⟩⟩
end
/-- the heap behind the making: the own dict alone is new -/
theorem mk_heap1 {H : Hp} {a d : Addr} {o1 o2 o3 o4 : HO} (ha : H a = none) (hd : d ≠ a) : upd (del (upd (upd (upd H a o1) d o2) a o3) a) d o4 = upd H d o4 := by
  funext b
  unfold upd del
  by_cases h1 : b = d
  · simp [h1]
  · by_cases h2 : b = a
    · subst h2; simp [h1, ha]
    · simp [h1, h2]
theorem mk_heap2 {H : Hp} {a d : Addr} {o1 o2 o3 o4 o5 : HO} (ha : H a = none) (hd : d ≠ a) : upd (del (upd (upd (upd (upd H a o1) d o2) a o3) d o4) a) d o5 = upd H d o5 := by
  funext b
  unfold upd del
  by_cases h1 : b = d
  · simp [h1]
  · by_cases h2 : b = a
    · subst h2; simp [h1, ha]
    · simp [h1, h2]
/-- raise C(e), C's __init__ keeping the one field f -/
def tRs1 (K : PySem.W.Frag) (C : Addr) (f : Str) (ta : TA) (W : WX) : TS := fun _ σ H => tMkO C (spIn1 K f) [] ta σ H fun cls d H' => W cls d σ H'
def tRs2 (K : PySem.W.Frag) (C : Addr) (f g : Str) (ta : TA) (W : WX) : TS := fun _ σ H => tMkO C (spIn2 K f g) [] ta σ H fun cls d H' => W cls d σ H'
theorem Hold.beside {K : PySem.W.Frag} {G H : Hp} {μ : Mu} {p : Addr} {o : HO} (S : Hold K G H μ) (hp : H p = none) : Hold K G (upd H p o) μ :=
  ⟨S.gh.trans (ex_new hp), S.nd, fun q hq => by
    obtain ⟨h1, u, h2, h3⟩ := S.at_ q hq
    exact ⟨h1, u, by rw [upd_ne (S.ne hq hp)]; exact h2, h3⟩⟩
theorem Since.beside {K : PySem.W.Frag} {G H : Hp} {μ : Mu} {p : Addr} {o : HO} (S : Hold K G H μ) (hp : H p = none) : Since μ G H G (upd H p o) μ where
  gg := Evl.Ex.refl G
  keep := fun a u h _ => by rw [upd_ne (ne_of_none h hp)]; exact h
  there := fun a h => by
    by_cases e : a = p
    · subst e; rw [upd_same]; simp
    · rw [upd_ne e]; exact h
  new := fun _ _ _ => rfl
  own := fun q hq => .inl (List.mem_map_of_mem hq)
section
variable {E : En} {C : Addr} {f g : Str} {ε : Ep} {μ : Mu} {Φ : Fi} {tA : TA} {d1 d2 : D}
theorem rs_raise1 (T : OexC E.K C) (hf : PySem.W.findIn E.K (.ref C) f = some none) (h : RA E tA ε μ fun ws μ' => ∃ d, ws = [.dat d] ∧ E.χ ε (.ref C) [(f, d)] μ') : RS E (tRs1 E.K C f tA E.W) ε μ Φ := fun σ G H S X D T' => h σ G H S X _ fun vs ws G1 H1 μ1 S1 s1 r ⟨d1, e, hx⟩ => by
  subst e
  cases r with
  | @cons v _ _ _ r r2 =>
    cases r2
    refine ⟨by show 1 ≤ 1000; decide, fun a ha => ⟨a, C, v, rfl, T, hf, upd_same, fun d hd hn => ⟨rfl, d, [(f, v)], upd_same, by rw [upd_ne hn, upd_same], ?_, ?_⟩⟩⟩
    · rw [upd_ne hn] at hd; exact hd
    · have hd' : H1 d = none := by rw [upd_ne hn] at hd; exact hd
      rw [mk_heap1 ha hn]
      have n0 : H d = none := by
        cases q : H d with
        | none => rfl
        | some o => exact absurd hd' (s1.there d (by rw [q]; simp))
      have s2 := s1.trans (Since.beside (o := .xd [(f, v)]) S1 hd')
      exact X σ ε G1 _ μ1 _ _ [(f, d1)] (S.to (S1.beside hd') s2) s2 (.inr ⟨d, _, rfl, n0, upd_same, .cons r .nil⟩) hx
theorem rs_raise2 (T : OexC E.K C) (hf : PySem.W.findIn E.K (.ref C) f = some none) (hg : PySem.W.findIn E.K (.ref C) g = some none) (h : RA E tA ε μ fun ws μ' => ∃ d1 d2, ws = [.dat d1, .dat d2] ∧ E.χ ε (.ref C) [(g, d2), (f, d1)] μ') : RS E (tRs2 E.K C f g tA E.W) ε μ Φ := fun σ G H S X D T' => h σ G H S X _ fun vs ws G1 H1 μ1 S1 s1 r ⟨d1, d2, e, hx⟩ => by
  subst e
  cases r with
  | @cons v _ _ _ r r2 =>
    cases r2 with
    | @cons u _ _ _ r2 r3 =>
      cases r3
      refine ⟨by show 2 ≤ 1000; decide, fun a ha => ⟨a, C, v, u, rfl, T, hf, hg, upd_same, fun d hd hn => ⟨rfl, d, [(g, u), (f, v)], ?_, upd_same, ?_, ?_⟩⟩⟩
      · rw [upd_ne (Ne.symm hn), upd_same]
      · rw [upd_ne hn] at hd; exact hd
      · have hd' : H1 d = none := by rw [upd_ne hn] at hd; exact hd
        rw [mk_heap2 ha hn]
        have n0 : H d = none := by
          cases q : H d with
          | none => rfl
          | some o => exact absurd hd' (s1.there d (by rw [q]; simp))
        have s2 := s1.trans (Since.beside (o := .xd [(g, u), (f, v)]) S1 hd')
        exact X σ ε G1 _ μ1 _ _ [(g, d2), (f, d1)] (S.to (S1.beside hd') s2) s2 (.inr ⟨d, _, rfl, n0, upd_same, .cons r2 (.cons r .nil)⟩) hx
end
section
variable {X : Cx} {W : WX} {x f g q : Str} {C fI : Addr} {fd : FuncData} {ta : TA} {e : Expr} {es : List Expr} {p pos pos2 : Pos} {k : Nat}
/-- what a class with such an __init__ tells -/
structure XC1 (P : Program) (w : World) (K : PySem.W.Frag) (mg : Str → Option Value) (base : Heap) (x f : Str) (C : Addr) : Prop where
  gl : mg x = some (.ref C)
  ox : OexC K C
  no : PySem.W.findIn K (.ref C) f = some none
  ini : ∃ (fI : Addr) (fd : FuncData), PySem.W.findIn K (.ref C) "__init__" = some (some (.ref fI)) ∧ PySem.W.typeIn K (.ref fI) = some (.type "function") ∧ Binds K fd ["self", f] [] ∧ FnOk P w K mg base CX0 1 fI fd ["self", f] (spIn1 K f)
structure XC2 (P : Program) (w : World) (K : PySem.W.Frag) (mg : Str → Option Value) (base : Heap) (x f g : Str) (C : Addr) : Prop where
  gl : mg x = some (.ref C)
  ox : OexC K C
  no : PySem.W.findIn K (.ref C) f = some none
  no2 : PySem.W.findIn K (.ref C) g = some none
  ini : ∃ (fI : Addr) (fd : FuncData), PySem.W.findIn K (.ref C) "__init__" = some (some (.ref fI)) ∧ PySem.W.typeIn K (.ref fI) = some (.type "function") ∧ Binds K fd ["self", f, g] [] ∧ FnOk P w K mg base CX0 1 fI fd ["self", f, g] (spIn2 K f g)
theorem ps_raise1 (T : XC1 X.prog X.w X.K X.mg X.base x f C) (hc : X.calm = true) (tk : Takes X W) (hr : Room k X.A) (h2 : 2 ≤ k) (hg : Gl X x) (ha : PA X (e :: es) ta) (hdb : (x == ("__debug__" : Str)) = false := by decide)
    (he : starEach (e :: es) X.env = (false, eval e X.env) :: starEach es X.env := by rfl) (hpl : (backTo pos (starEach es X.env)).any (·.1) = false := by rfl) :
    PS X (.Raise (some (.Call (.Name x p) (e :: es) [] pos)) none pos2) (tRs1 X.K C f ta W) := by
  obtain ⟨fI, fd, h1, h2', h3, h4⟩ := T.ini
  exact ps_raise hc tk (pmk_oex T.ox h1 h2' h4 (hr.mono h2) h3 .nil (fun _ _ _ _ _ _ _ z => z.elim) hg T.gl ha hdb he hpl)
theorem ps_raise2 (T : XC2 X.prog X.w X.K X.mg X.base x f g C) (hc : X.calm = true) (tk : Takes X W) (hr : Room k X.A) (h2 : 2 ≤ k) (hg : Gl X x) (ha : PA X (e :: es) ta) (hdb : (x == ("__debug__" : Str)) = false := by decide)
    (he : starEach (e :: es) X.env = (false, eval e X.env) :: starEach es X.env := by rfl) (hpl : (backTo pos (starEach es X.env)).any (·.1) = false := by rfl) :
    PS X (.Raise (some (.Call (.Name x p) (e :: es) [] pos)) none pos2) (tRs2 X.K C f g ta W) := by
  obtain ⟨fI, fd, h1, h2', h3, h4⟩ := T.ini
  exact ps_raise hc tk (pmk_oex T.ox h1 h2' h4 (hr.mono h2) h3 .nil (fun _ _ _ _ _ _ _ z => z.elim) hg T.gl ha hdb he hpl)
end
end Sn

/-! Sn, fourth part: try with several clauses, some of them named. -/
namespace Sn
open PySem PySem.Spec PyProof.Rows L2
/-- a clause: its class, the slot of its name, its suite -/
abbrev Cl := Value × Option Nat × (Addr → Value → Option Addr → TS)
def outE (D : Ends) : Option Nat → Ends
  | none => D
  | some i => ⟨fun σ H => D.nx (σ.set i none) H, D.rt, fun σ H => D.bk (σ.set i none) H, fun σ H => D.ct (σ.set i none) H⟩
def inSl (σ : L2.St) (a : Addr) : Option Nat → L2.St
  | none => σ
  | some i => σ.set i (some (.ref a))
def wCl (K : PySem.W.Frag) (Wo : WX) (D : Ends) : List Cl → WX
  | [] => Wo
  | (c, i, ts) :: r => fun cls d σ H => ∃ b, PySem.W.exmOne K cls c = some b ∧ (b = true → ∀ a, H a = none → ts a cls d (outE D i) (inSl σ a i) H) ∧ (b = false → wCl K Wo D r cls d σ H)
inductive ClOk (X : Cx) : List ExceptHandler → List Cl → Prop
  | nil : ClOk X [] []
  | plain {x : Str} {c : Value} {ts : Addr → Value → Option Addr → TS} {b₀ : Stmt} {suite : List Stmt} {np pos' : Pos} {hds : List ExceptHandler} {l : List Cl} (hc : Names X x c)
      (hsu : ∀ (a : Addr) (oe : Obj) (cls : Value) (d : Option Addr) (pn : List (Addr × Obj)), Zc cls d oe → (∃ vs, oe.data = .fields vs) → PSs (X.suite a ((a, oe) :: pn)) (b₀ :: suite) (ts a cls d)) (r : ClOk X hds l) :
      ClOk X (.ExceptHandler (some (.Name x np)) none (b₀ :: suite) pos' :: hds) ((c, none, ts) :: l)
  | named {x n : Str} {i : Nat} {c : Value} {ts : Addr → Value → Option Addr → TS} {b₀ : Stmt} {suite : List Stmt} {np pos' : Pos} {hds : List ExceptHandler} {l : List Cl} (hc : Names X x c) (hi : X.N[i]? = some n) (hln : X.env.kindOf n = some .local)
      (hsu : ∀ (a : Addr) (oe : Obj) (cls : Value) (d : Option Addr) (pn : List (Addr × Obj)), Zc cls d oe → (∃ vs, oe.data = .fields vs) → PSs (X.suite a ((a, oe) :: pn)) (b₀ :: suite) (ts a cls d)) (r : ClOk X hds l) :
      ClOk X (.ExceptHandler (some (.Name x np)) (some n) (b₀ :: suite) pos' :: hds) ((c, some i, ts) :: l)
section
variable {X : Cx} {body : List Stmt} {h₀ : ExceptHandler} {hds : List ExceptHandler} {l : List Cl} {pos : Pos} {tb : WX → TS} {Wo : WX}
theorem ps_try (hs : X.stack = X.env :: X.outer) (hf : X.env.frame = some X.env.locals) (hN : X.N.Nodup) (tk : Takes X Wo)
    (hb : ∀ (W : WX) (pn : List (Addr × Obj)) (xe : Value → Shared → Prop), Takes (X.tr pn xe) W → PassesOwn (model X.prog X.w) X.A X.env xe → PSs (X.tr pn xe) body (tb W))
    (hh : ClOk X (h₀ :: hds) l) : PS X (.Try body (h₀ :: hds) [] [] pos) (fun D σ H => tb (wCl X.K Wo D l) D σ H) := by
  refine ⟨fun pins s σ H D I h => ?_⟩
  have ok := I.ok
  have hfr : X.A.frames = some (X.env :: X.outer) := hs ▸ ok.frames
  refine wpAny_Try_except (wpAny_mono ((hb (wCl X.K Wo D l) (X.pn ++ pins) (fun e t1 =>
    wpAny (model X.prog X.w) X.A (noteFrame e X.env) (fun _ t2 => wpAny (model X.prog X.w) X.A (setFlight e none)
      (fun _ t3 => wpAny (model X.prog X.w) X.A (handleBy e X.env (h₀ :: hds)) (SP X pins D) X.xe t3) X.xe t2) X.xe t1)
    (fun u s' xx => ?_) PassesOwn.looking).run [] s σ H D (I.toTry _) h) (fun f s1 q1 => ?_) (fun _ _ q1 => q1))
  · obtain ⟨a, B, sI, pins', σ', H', cls, d, rfl, J', nb, up, sky, na, os, ag, w⟩ := xx
    have J := J'.ofTry ok
    show wpAny (model X.prog X.w) X.A (noteFrame (.ref a) X.env) _ _ _
    refine Sky.land Zc.steady hfr hf (by rw [← hs]; exact sky) fun g3 fl up3 => ?_
    have J3 : Inv X pins σ' H' { s' with heap := g3 } := J.landed nb fl.1 (up.trans up3) os ag
    obtain ⟨oe, vs, he, hz, hd⟩ := fl.there
    have far : a ∉ frs (X.env :: X.outer) := fun hm => by
      obtain ⟨_, o', e', hnf⟩ := fl.2.2.1.mem hm
      rw [he] at e'
      cases e'
      exact hnf _ hd
    have nL : a ≠ X.env.locals := fun z => far (List.mem_filterMap.mpr ⟨X.env, List.mem_cons_self, by rw [hf, z]⟩)
    have nF : a ∉ X.fs := fun hm => by
      obtain ⟨y, hy, q⟩ := List.mem_filterMap.mp hm
      exact far (List.mem_filterMap.mpr ⟨y, List.mem_cons_of_mem _ hy, q⟩)
    have S3 := J3.suite he hd na nL nF
    have tst : ∀ {x : Str} {c : Value} {np : Pos} {Q : Value → Shared → Prop} {E : Value → Shared → Prop}, Names X x c → Q c { s' with heap := g3 } →
        wpAny (model X.prog X.w) (X.A.mark (some (.ref a))) (eval (.Name x np) X.env) Q E { s' with heap := g3 } := fun {x c np Q E} hc q => by
      obtain ⟨hg, hdb, hm | ⟨hm, hv, hnn⟩⟩ := hc
      · exact ld_glob (X := X.suite a ((a, oe) :: (X.pn ++ pins))) S3 hg hm q hdb
      · exact ld_blt (X := X.suite a ((a, oe) :: (X.pn ++ pins))) S3 hg hm hv q hnn hdb
    have ty : PySem.W.Looks (model X.prog X.w) g3 (typeOf (.ref a)) cls := fun A Q E s k q => wpAny_typeOf_ref (k _ _ he) (by rw [hz.1]; exact q)
    have go : ∀ {h2 : List ExceptHandler} {l2 : List Cl}, ClOk X h2 l2 → wCl X.K Wo D l2 cls d σ' H' →
        wpAny (model X.prog X.w) X.A (handleBy (.ref a) X.env h2) (SP X pins D) X.xe { s' with heap := g3 } := fun {h2 l2} hk => by
      induction hk with
      | nil =>
        intro w
        refine wpAny_handleBy_nil ?_
        have fin : wpAny (model X.prog X.w) X.A (setFlight (.ref a) X.env.frame) (fun _ t4 => wpAny (model X.prog X.w) X.A (throw (.ref a) : Sem Flow) (SP X pins D) X.xe t4) X.xe { s' with heap := g3 } := by
          rw [hf]
          exact HandSPX.setFlight_upZ fl fun g4 hh4 up4 => wpAny_throw (tk _ _ ⟨a, B, sI, pins, σ', H', cls, d, rfl, J, nb, (up.trans up3).trans up4, .inr (.inr (by rw [hs]; exact hh4)), na, os, ag, w⟩)
        obtain ⟨_, _, _, oe', vs', T, _, _, he', _, hd', h1, _⟩ := id fl
        unfold PySem.passOn
        refine wpAny_bind (wpAny_field he' hd' h1 ?_)
        rw [if_neg (show ¬ ((Value.ref T == Value.none) = true) by simp)]
        first | exact wpAny_bind (wpAny_pure (wpAny_bind fin)) | exact wpAny_bind fin
      | plain hc hsu r ih =>
        intro w
        obtain ⟨b, hb1, hy, hn⟩ := w
        refine wpAny_handleBy_cons (codeAny_handlers_test (tst hc ((PySem.W.exm_one (M := model X.prog X.w) J3.kIn ty hb1).here ?_))) (by intro q; cases q)
        cases b with
        | false => exact ih (hn rfl)
        | true =>
          refine codeAny_handlers_suite (HandSPX.lands_againZ fl fun g4 fl4 up4 => ?_)
          have J4 : Inv X pins σ' H' { s' with heap := g4 } := J.landed nb fl4.1 ((up.trans up3).trans up4) os ag
          obtain ⟨oe4, vs4, he4, hz4, hd4⟩ := fl4.there
          refine wpAny_mono ((hsu a oe4 cls d (X.pn ++ pins) hz4 ⟨_, hd4⟩).run [] _ _ H' _ (J4.suite he4 hd4 na nL nF) (hy rfl a na)) (fun f s6 hsp => ?_) (fun _ _ z => False.elim z)
          cases f with
          | next => exact hsp.elim fun σ6 hsp => hsp.elim fun H6 hsp => ⟨σ6, H6, hsp.1.unsuite ok, hsp.2⟩
          | brk => exact hsp.elim fun σ6 hsp => hsp.elim fun H6 hsp => ⟨σ6, H6, hsp.1.unsuite ok, hsp.2⟩
          | cont => exact hsp.elim fun σ6 hsp => hsp.elim fun H6 hsp => ⟨σ6, H6, hsp.1.unsuite ok, hsp.2⟩
          | ret u =>
            obtain ⟨v6, σ6, H6, S6, r6, q6⟩ := hsp
            exact ⟨v6, σ6, H6, S6.unsuite ok, r6, q6⟩
      | named hc hi hln hsu r ih =>
        intro w
        obtain ⟨b, hb1, hy, hn⟩ := w
        refine wpAny_handleBy_cons (codeAny_handlers_test (tst hc ((PySem.W.exm_one (M := model X.prog X.w) J3.kIn ty hb1).here ?_))) (by intro q; cases q)
        cases b with
        | false => exact ih (hn rfl)
        | true =>
          refine codeAny_handlers_suite_as (HandSPX.lands_againZ fl fun g4 fl4 up4 => ?_)
          have J4 : Inv X pins σ' H' { s' with heap := g4 } := J.landed nb fl4.1 ((up.trans up3).trans up4) os ag
          obtain ⟨oe4, vs4, he4, hz4, hd4⟩ := fl4.there
          refine store_ok (X := X.suite a ((a, oe4) :: (X.pn ++ pins))) (v := .ref a) (J4.suite he4 hd4 na nL nF) hN hi (.inl hln) rfl (fun s5 S5 => ?_) (.inr hln)
          refine wpAny_mono ((hsu a oe4 cls d (X.pn ++ pins) hz4 ⟨_, hd4⟩).run [] s5 _ H' _ S5 (hy rfl a na)) (fun f s6 hsp => ?_) (fun _ _ z => False.elim z)
          cases f with
          | next => exact hsp.elim fun σ6 hsp => hsp.elim fun H6 hsp => gone_ok (hsp.1.unsuite ok) hN hi hln fun s7 J7 => ⟨_, _, J7, hsp.2⟩
          | brk => exact hsp.elim fun σ6 hsp => hsp.elim fun H6 hsp => gone_ok (hsp.1.unsuite ok) hN hi hln fun s7 J7 => ⟨_, _, J7, hsp.2⟩
          | cont => exact hsp.elim fun σ6 hsp => hsp.elim fun H6 hsp => gone_ok (hsp.1.unsuite ok) hN hi hln fun s7 J7 => ⟨_, _, J7, hsp.2⟩
          | ret u =>
            obtain ⟨v6, σ6, H6, S6, r6, q6⟩ := hsp
            exact gone_ok (S6.unsuite ok) hN hi hln fun s7 J7 => ⟨_, _, _, J7, r6, q6⟩
    exact go hh w
  · cases f with
    | next => exact q1.elim fun σ' q1 => q1.elim fun H' q1 => wpAny_execs_nil ⟨σ', H', q1.1.ofTry ok, q1.2⟩
    | brk => exact q1.elim fun σ' q1 => q1.elim fun H' q1 => ⟨σ', H', q1.1.ofTry ok, q1.2⟩
    | cont => exact q1.elim fun σ' q1 => q1.elim fun H' q1 => ⟨σ', H', q1.1.ofTry ok, q1.2⟩
    | ret u =>
      obtain ⟨v, σ', H', J', r, q⟩ := q1
      exact ⟨v, σ', H', J'.ofTry ok, r, q⟩
end
/-! ### the reading at the level of data -/
/-- in a suite nothing is let out -/
abbrev En.mute (E : En) : En := ⟨E.K, fun _ _ _ _ => False, fun _ _ _ _ => False⟩
def inEp (ε : Ep) (a : Addr) (d : Option Addr) (fs : List (Str × D)) : Option Nat → Ep
  | none => ε
  | some i => ε.set i (some (.dat (.exc a d fs)))
def outΦ (Φ : Fi) : Option Nat → Fi
  | none => Φ
  | some i => ⟨fun ε μ => Φ.nx (ε.set i none) μ, Φ.rt, fun ε μ => Φ.bk (ε.set i none) μ, fun ε μ => Φ.ct (ε.set i none) μ⟩
/-- what the clauses do with an exception -/
def HCl (E : En) : List Cl → Ep → Value → List (Str × D) → Mu → Fi → Prop
  | [], ε, cls, fs, μ, _ => E.χ ε cls fs μ
  | (c, i, ts) :: r, ε, cls, fs, μ, Φ => ∃ b, PySem.W.exmOne E.K cls c = some b ∧ (b = true → ∀ (a : Addr) (d : Option Addr), RS E.mute (ts a cls d) (inEp ε a d fs i) μ (outΦ Φ i)) ∧ (b = false → HCl E r ε cls fs μ Φ)
theorem Slots.unset' {K : PySem.W.Frag} {G : Hp} {σ : L2.St} {ε : Ep} (h : Slots K G σ ε) (i : Nat) : Slots K G (σ.set i none) (ε.set i none) := h.unset i
theorem ties_out {E : En} {μ : Mu} {G H : Hp} {Φ : Fi} {D : Ends} (T : Ties E μ G H Φ D) : ∀ i, Ties E.mute μ G H (outΦ Φ i) (outE D i)
  | none => ⟨T.nx, T.rt, T.bk, T.ct⟩
  | some i => ⟨fun σ' ε' G' H' μ' S s q => T.nx _ _ G' H' μ' ⟨S.hold, S.slots.unset i⟩ s q, T.rt, fun σ' ε' G' H' μ' S s q => T.bk _ _ G' H' μ' ⟨S.hold, S.slots.unset i⟩ s q, fun σ' ε' G' H' μ' S s q => T.ct _ _ G' H' μ' ⟨S.hold, S.slots.unset i⟩ s q⟩
theorem slots_in {K : PySem.W.Frag} {G : Hp} {σ : L2.St} {ε : Ep} {a : Addr} {d : Option Addr} {fs : List (Str × D)} (h : Slots K G σ ε) (r : Dr K G (.ref a) (.exc a d fs)) : ∀ i, Slots K G (inSl σ a i) (inEp ε a d fs i)
  | none => h
  | some i => h.set i (show Wr K G (.ref a) (.dat (.exc a d fs)) from r)
/-- the own dict of a caught exception is frozen -/
theorem frz_exc {K : PySem.W.Frag} {G H : Hp} {μ : Mu} {p : Addr} {o : List (Str × V)} (S : Hold K G H μ) (hp : H p = some (.xd o)) (hg : G p = none) : Hold K (upd G p (.xd o)) H μ :=
  ⟨fun b u hb => by
    by_cases e : b = p
    · subst e; rw [upd_same] at hb; rw [hp]; exact hb
    · rw [upd_ne e] at hb; exact S.gh b u hb, S.nd, fun q hq => by
    obtain ⟨h1, u, h2, h3⟩ := S.at_ q hq
    have n : q.1 ≠ p := fun e => by
      rw [e, hp] at h2
      cases h2
      cases hc : q.2 with
      | lst ws => rw [hc] at h3; cases h3
    exact ⟨by rw [upd_ne n]; exact h1, u, h2, h3.up (ex_new hg)⟩⟩
theorem DrF.up {K : PySem.W.Frag} {G G' : Hp} {v : List (Str × V)} {d : List (Str × D)} (h : DrF K G v d) (e : Ex G G') : DrF K G' v d := DrF.mono e d v h
theorem rs_try {E : En} {tb : WX → TS} {l : List Cl} {ε : Ep} {μ : Mu} {Φ : Fi} (χ' : Ep → Value → List (Str × D) → Mu → Prop) (hb : ∀ W', RS ⟨E.K, W', χ'⟩ (tb W') ε μ Φ)
    (hh : ∀ ε' cls fs μ', χ' ε' cls fs μ' → HCl E l ε' cls fs μ' Φ) : RS E (fun D σ H => tb (wCl E.K E.W D l) D σ H) ε μ Φ := fun σ G H S X D T => by
  refine hb (wCl E.K E.W D l) σ G H S (fun σ' ε' G' H' μ' cls d fs S' s' e c => ?_) D ⟨T.nx, T.rt, T.bk, T.ct⟩
  have go : ∀ l', HCl E l' ε' cls fs μ' Φ → wCl E.K E.W D l' cls d σ' H' := fun l' => by
    induction l' with
    | nil => exact fun hq => X σ' ε' G' H' μ' cls d fs S' s' e hq
    | cons c r ih =>
      obtain ⟨c, i, ts⟩ := c
      intro hq
      obtain ⟨b, h1, h2, h3⟩ := hq
      refine ⟨b, h1, fun hb => fun a ha => ?_, fun hb => ih (h3 hb)⟩
      have h2 := h2 hb a d
      rcases e with ⟨rfl, rfl⟩ | ⟨dd, vfs, rfl, hn, hx, rf⟩
      · exact h2 _ G' H' ⟨S'.hold, slots_in S'.slots (.exc0 a) i⟩ (fun _ _ _ _ _ _ _ _ _ _ _ z => z.elim) _ (ties_out (T.to s') i)
      · cases hg : G' dd with
        | none =>
          have S2 := frz_exc S'.hold hx hg
          have e2 : Ex G' (upd G' dd (.xd vfs)) := ex_new hg
          have s2 : Since μ G H (upd G' dd (.xd vfs)) H' μ' := ⟨s'.gg.trans e2, s'.keep, s'.there, fun b hb hm => by rw [upd_ne (fun z => hb (by rw [z]; exact hn))]; exact s'.new b hb hm, s'.own⟩
          exact h2 _ (upd G' dd (.xd vfs)) H' ⟨S2, slots_in (S'.slots.up e2) (.exc1 a upd_same (rf.up e2)) i⟩ (fun _ _ _ _ _ _ _ _ _ _ _ z => z.elim) _ (ties_out (T.to s2) i)
        | some o =>
          have e1 := S'.hold.gh dd o hg
          rw [hx] at e1
          cases e1
          exact h2 _ G' H' ⟨S'.hold, slots_in S'.slots (.exc1 a hg rf) i⟩ (fun _ _ _ _ _ _ _ _ _ _ _ z => z.elim) _ (ties_out (T.to s') i)
  exact go l (hh ε' cls fs μ' c)
/-! ### in a suite: the caught exception's class and fields -/
def rIsX (K : PySem.W.Frag) (cls : Value) (d : Option Addr) (a : Addr) : List V → Hp → VK → Prop := fun xs H Q => ∃ (D : Addr) (c : V) (cv : Value) (b : Bool), cls = .ref D ∧ ExcC K D ∧ xs = [.ref a, c] ∧ (∀ u, RelV c u → u = cv) ∧ PySem.W.kitOne K (.ref D) cv = some b ∧
  (d = none ∨ ∃ dd fs, d = some dd ∧ H dd = some (.xd fs)) ∧ Q (.bl b) H
theorem call_isX {X : Cx} {a : Addr} {cls : Value} {d : Option Addr} {oe : Obj} {pn : List (Addr × Obj)} (hz : Zc cls d oe) (hf : ∃ vs, oe.data = .fields vs) : CallR (X.suite a ((a, oe) :: pn)) (.builtin "isinstance") (rIsX X.K cls d a) := by
  intro pins s σ H xs us Q I r h
  obtain ⟨D, c, cv, b, rfl, C, rfl, hcv, e, hdd, q⟩ := h
  cases r with
  | cons rx rr =>
    cases rr with
    | cons rt rr =>
      cases rr
      cases rx
      have ec := hcv _ rt
      subst ec
      obtain ⟨hget, _⟩ := I.pin (a, oe) (List.mem_append.mpr (.inl List.mem_cons_self))
      obtain ⟨vs, hv⟩ := hf
      have J : ∃ od, PySem.W.InstAt s.heap a oe D od := by
        obtain ⟨oc, oD, oda, osl⟩ := oe
        obtain ⟨h1, h2⟩ := hz
        dsimp only at h1 h2 hv
        subst h1 h2 hv
        rcases hdd with rfl | ⟨dd, fs, rfl, hx⟩
        · exact ⟨none, hget, rfl, rfl, trivial⟩
        · have hx' : ObjOk X.prog X.w H s.heap dd (.xd fs) := I.hok dd _ hx
          obtain ⟨mA, ⟨o, es, ep, ho, _⟩, _⟩ := hx'
          exact ⟨some o, hget, rfl, rfl, ho⟩
      obtain ⟨od, J⟩ := J
      have hcl : (PySem.W.clsIn X.K D).isSome = true := by
        obtain ⟨cd, hc, _⟩ := PySem.W.any_some C.hd
        rw [hc] <;> rfl
      exact PySem.W.kia_one (PySem.W.kitx_exc hcl C.hg C.hk C.hs C.ha C.hn C.ht C.hm) I.kIn J e (fun z => nomatch z) fun tk => ⟨.bl b, H, I.kept (t' := tk) fun _ _ z => z, rfl, q⟩
theorem Dr.exc_d {K : PySem.W.Frag} {G H : Hp} {a : Addr} {d : Option Addr} {fs : List (Str × D)} {v : V} (e : Ex G H) (r : Dr K G v (.exc a d fs)) : v = .ref a ∧ (d = none ∨ ∃ dd vfs, d = some dd ∧ H dd = some (.xd vfs)) := by
  cases r with
  | exc0 => exact ⟨rfl, .inl rfl⟩
  | exc1 _ h _ => exact ⟨rfl, .inr ⟨_, _, rfl, e _ _ h⟩⟩
section
variable {E : En} {ε : Ep} {μ : Mu} {a A C : Addr} {d : Option Addr} {fs : List (Str × D)} {b : Bool} {f : Str} {dv : D}
theorem vc_isX (T : ExcC E.K A) (h : PySem.W.kitOne E.K (.ref A) (.ref C) = some b) : VC E (rIsX E.K (.ref A) d a) [.dat (.exc a d fs), .dat (.cls C)] μ (.b b) := fun G H S vs rs Q q => by
  cases rs with
  | cons r t =>
    cases t with
    | cons r2 t =>
      cases t
      cases r2
      obtain ⟨rfl, hd⟩ := r.exc_d S.gh
      exact ⟨A, _, _, b, rfl, T, rfl, fun u hu => hu, h, hd, q _ (Dr.bl _)⟩
theorem vc_isXt {n : String} (T : ExcC E.K A) (h : PySem.W.kitOne E.K (.ref A) (.type n) = some b) : VC E (rIsX E.K (.ref A) d a) [.dat (.exc a d fs), .dat (.ty n)] μ (.b b) := fun G H S vs rs Q q => by
  cases rs with
  | cons r t =>
    cases t with
    | cons r2 t =>
      cases t
      cases r2
      obtain ⟨rfl, hd⟩ := r.exc_d S.gh
      exact ⟨A, _, _, b, rfl, T, rfl, fun u hu => hu, h, hd, q _ (Dr.bl _)⟩
theorem DrF.look {K : PySem.W.Frag} {G : Hp} : ∀ {vs : List (Str × V)} {ds : List (Str × D)}, DrF K G vs ds → ds.lookup f = some dv → ∃ v, vs.lookup f = some v ∧ Dr K G v dv
  | _, _, .nil, h => by cases h
  | _, _, .cons (x := x) (v := v) (d := d) r t, h => by
    rw [List.lookup_cons] at h ⊢
    cases e : f == x with
    | true =>
      rw [e] at h
      cases h
      exact ⟨v, rfl, r⟩
    | false =>
      rw [e] at h
      exact DrF.look t h
/-- bad.f, f a field that the own __init__ keeps -/
def tFx (a : Addr) (cls : Value) (d : Option Addr) (K : PySem.W.Frag) (f : Str) (te : TE) : TE := fun σ H Q => ∃ C, cls = .ref C ∧ XfC K C ∧ PySem.W.findIn K (.ref C) f = some none ∧ tXf a cls d C f te σ H Q
theorem pe_fx {X : Cx} {a : Addr} {oe : Obj} {cls : Value} {d : Option Addr} {pn : List (Addr × Obj)} {e : Expr} {te : TE} {pos : Pos} {n : Str} (hz : Zc cls d oe) (hf : ∃ vs, oe.data = .fields vs) (he : PE (X.suite a ((a, oe) :: pn)) e te)
    (hb : attributeBase e n X.env (eval e X.env) = eval e X.env := by rfl) : PE (X.suite a ((a, oe) :: pn)) (.Attribute e n pos) (tFx a cls d X.K n te) := by
  refine ⟨fun pins s σ H Q I h => ?_⟩
  obtain ⟨C, rfl, T, hno, h⟩ := h
  exact (pe_xf T hno hz hf he hb).run pins s σ H Q I h
theorem ve_fx {te : TE} (T : ExcC E.K A) (hno : PySem.W.findIn E.K (.ref A) f = some none) (he : VE E te ε μ (.dat (.exc a d fs))) (hl : fs.lookup f = some dv) : VE E (tFx a (.ref A) d E.K f te) ε μ (.dat dv) := fun σ G H S Q q =>
  ⟨A, rfl, excC_xf T, hno, he σ G H S _ fun v r => by
    cases r with
    | exc0 => cases hl
    | exc1 _ hx rf =>
      obtain ⟨v, h1, h2⟩ := rf.look hl
      exact ⟨rfl, rfl, _, _, v, rfl, S.hold.gh _ _ hx, h1, q v h2⟩⟩
end
end Sn

/-! Sn: sizes of ints by powers of two. -/
namespace Sn
open PySem L2
structure Bd (n : Nat) (i : Int) : Prop where
  lt : i.natAbs < 2 ^ n
theorem Bd.up {n m : Nat} {i : Int} (h : Bd n i) (l : n ≤ m) : Bd m i := ⟨Nat.lt_of_lt_of_le h.lt (Nat.pow_le_pow_right (by omega) l)⟩
theorem Bd.lit {i : Int} (h : decide (i.natAbs < 2 ^ 4000) = true) : Bd 4000 i := ⟨of_decide_eq_true h⟩
theorem Bd.om {i : Int} (h1 : -18446744073709551616 < i) (h2 : i < 18446744073709551616) : Bd 64 i := ⟨by
  show i.natAbs < 18446744073709551616
  omega⟩
theorem Bd.neg {n : Nat} {i : Int} (h : Bd n i) : Bd n (-i) := ⟨by rw [Int.natAbs_neg]; exact h.lt⟩
theorem Bd.mul {n m : Nat} {i j : Int} (h : Bd n i) (k : Bd m j) : Bd (n + m) (i * j) := ⟨by
  rw [Int.natAbs_mul, Nat.pow_add]
  exact Nat.mul_lt_mul'' h.lt k.lt⟩
theorem Bd.add {n m : Nat} {i j : Int} (h : Bd n i) (k : Bd m j) : Bd (n + m + 1) (i + j) := ⟨by
  have h1 := (h.up (m := n + m) (by omega)).lt
  have k1 := (k.up (m := n + m) (by omega)).lt
  rw [Nat.pow_succ]
  have := Int.natAbs_add_le i j
  omega⟩
theorem Bd.sub {n m : Nat} {i j : Int} (h : Bd n i) (k : Bd m j) : Bd (n + m + 1) (i - j) := by
  rw [Int.sub_eq_add_neg]; exact h.add k.neg
theorem Bd.log {n : Nat} {i : Int} (h : Bd n i) : i.natAbs.log2 ≤ n := by
  by_cases z : i.natAbs = 0
  · rw [z]; simp
  · exact Nat.le_of_lt ((Nat.log2_lt z).mpr h.lt)
theorem cmulw {n m : Nat} {i j : Int} (h : Bd n i) (k : Bd m j) (l : n + m < 1000000) : CMulW i j := by
  have h1 := h.log
  have h2 := k.log
  unfold CMulW
  omega
theorem cdivw {n : Nat} {i j : Int} (h0 : 0 < j) (h : Bd n j) (l : n < 9000) : CDivW i j := ⟨h0, Nat.lt_of_le_of_lt h.log l⟩
theorem cdivx {n : Nat} {i j : Int} (h0 : j ≠ 0) (h : Bd n j) (l : n < 9000) : CDivX i j := ⟨h0, Nat.lt_of_le_of_lt h.log l⟩
theorem Bd.le {n : Nat} {i j : Int} (h : Bd n j) (l : i.natAbs ≤ j.natAbs) : Bd n i := ⟨Nat.lt_of_le_of_lt l h.lt⟩
end Sn

/-! Sn: the head's facts with tests of one's own, constants of the module. -/
namespace Sn
open PySem PySem.Spec PyProof.Rows L2
def hookE (n : Nat) (fa : List He.Fa) (fn : List He.DefD) (ex : PySem.W.Frag → Bool) : PySem.W.Hook where
  α := Bool × He.AlD
  obs := fun s => (ex (He.frG s.heap.get? (He.asD s.heap.get? n)), He.obsDG n fa fn s.heap.get?)
  val := fun _ => (true, He.valD fn)
  says := fun _ h => ∃ K : PySem.W.Frag, K.In h ∧ ex K = true ∧ He.SaysD fa fn K
  of := fun _ _ e => ⟨_, He.frG_in, congrArg (fun z : Bool × He.AlD => z.1) e, congrArg (fun z : Bool × He.AlD => z.2) e⟩
  keeps := fun _ _ _ ⟨K, hK, c⟩ k => ⟨K, PySem.W.Frag.In.keeps hK k, c⟩
def obE (n : Nat) (fa : List He.Fa) (fn : List He.DefD) (ex : PySem.W.Frag → Bool) (g : Addr → Option Obj) : Bool × He.AlD := (ex (He.frG g (He.asD g n)), He.obsDG n fa fn g)
theorem obE_eq {n : Nat} {fa : List He.Fa} {fn : List He.DefD} {ex : PySem.W.Frag → Bool} {g : Addr → Option Obj} {s : Shared} (h : ∀ a, g a = s.heap.get? a) : obE n fa fn ex g = (hookE n fa fn ex).obs s := by
  have e : g = s.heap.get? := funext h
  rw [e] <;> rfl
/-! ### the law's end -/
theorem dra_ints {K : PySem.W.Frag} {G : Hp} : ∀ ns : List Int, DrA K G (ns.map V.int) (ns.map D.int)
  | [] => .nil
  | n :: r => .cons (.int n) (dra_ints r)
/-- a law's promise: True of every list of at most 63 ints -/
def fs_law : FS := fun ws μ R _ => ∃ ns : List Int, ws = [.dat (.lst (ns.map .int))] ∧ ns.length ≤ 63 ∧ μ = [] ∧ ∀ μ', R (.b true) μ'
theorem law_sp {K : PySem.W.Frag} {H : Hp} {a : Addr} {ns : List Int} (hl : ns.length ≤ 63) (h : SqL K H a (ns.map V.int)) : spF K fs_law [.ref a] H (fun v _ => v = .bl true) fun _ _ _ => False :=
  ⟨H, [.dat (.lst (ns.map .int))], [], fun w _ => w = .b true, fun _ _ _ => False, ⟨Evl.Ex.refl H, List.nodup_nil, fun q hq => by cases hq⟩, .cons (show Wr K H (.ref a) (.dat (.lst (ns.map .int))) from Dr.lst h (dra_ints ns)) .nil, ⟨ns, rfl, hl, rfl, fun _ => rfl⟩,
    fun v w G' H' μ' _ _ r e => by
      have e' : w = .b true := e
      subst e'
      cases r
      rfl, fun _ _ _ _ _ _ _ _ _ z => z⟩
theorem fn_one {P : Program} {w : World} {K : PySem.W.Frag} {mg : Str → Option Value} {h : Heap} {x : Str} {k : Nat} {y : Str} {F : FS} {f : Addr} (h0 : Fn P w K mg h x k [y] F) (hf : mg x = some (.ref f)) (hall : ∀ base : Heap, K.In base → base.Ns mainGlobals mg → Fn P w K mg base x k [y] F) :
    ∃ fd : FuncData, (∀ (s : Shared) (v : Value), BindsTo s fd ⟨[v], []⟩ [(y, v)]) ∧ ∀ base : Heap, K.In base → base.Ns mainGlobals mg → FnOk P w K mg base (L2.CX P w) k f fd [y] (spF K F) := by
  obtain ⟨f1, fd1, m1, _, b1, _, o1, l1, e1⟩ := h0.ex
  refine ⟨fd1, fun s v => b1 s [v] rfl, fun base kb gb => ?_⟩
  obtain ⟨f2, fd2, m2, _, _, F2, o2, l2, e2⟩ := (hall base kb gb).ex
  have q1 : f1 = f := by
    have z := m1.symm.trans hf
    cases z
    rfl
  have q2 : f2 = f := by
    have z := m2.symm.trans hf
    cases z
    rfl
  subst q1 q2
  have q3 : o1 = o2 := by
    have z := l1.symm.trans l2
    cases z
    rfl
  subst q3
  have q4 : fd1 = fd2 := by
    have z := e1.symm.trans e2
    cases z
    rfl
  rw [q4]
  exact F2
/-- the law's end: what is let out may hang on the world -/
theorem walk_w {l : PySem.W.OpenLaw} {k : Nat} {q : Program} {loose : List Str} {XP : (Str → Option Value) → Heap → Prop} {YP : World → Heap → Prop} {d : DefRec} (hn : l.most = some 63) (hdf : d.params.defaults = []) (hr : Room k callerA)
    (F : ∀ (w : World) (mg : Str → Option Value) (fa : Addr) (h : Heap), YP w h → h.Ns mainGlobals mg → mg d.name = some (.ref fa) → ∃ (K : PySem.W.Frag) (fd : FuncData), K.In h ∧ (∀ (s : Shared) (u : Value), BindsTo s fd ⟨[u], []⟩ [("script", u)]) ∧
      ∀ base : Heap, K.In base → base.Ns mainGlobals mg → FnOk l.prog w K mg base (L2.CX l.prog w) k fa fd ["script"] (spF K fs_law)) : PySem.W.WalkO q loose XP YP l.row.toRowW d [] (fun f vs => PySem.call f vs) :=
  Att.attach_call hn hdf fun w s₀ s₁ mg mb fa o pm cd doc a vs ns G Y ho hd hcd hmg hobj hints hlen hg => by
    obtain ⟨K, fd, KX, hb, hF⟩ := F w mg fa _ Y G.T.g hmg
    exact law_call KX G.T.g G.T.b G.T.builtins G.T.nolimit hg hobj hints (Nat.le_trans hlen (by decide)) hr hF hb (fun H _ hS => law_sp hlen hS) fun H e s' z => by
      obtain ⟨_, _, _, _, _, _, _, _, _, _, _, _, z⟩ := z
      exact z
/-! ### constants of the module -/
section
variable {X : Cx} {x : Str} {pos : Pos}
theorem pe_gi {i : Int} (h : ∃ t, X.mg x = some (.int i t)) (hg : Gl X x := by rfl) (hd : (x == ("__debug__" : Str)) = false := by decide) : PE X (.Name x pos) (tC (.int i)) := by
  obtain ⟨t, h⟩ := h
  exact pe_glob hg h ⟨t, rfl⟩ hd
theorem pe_gs {i : Str} (h : ∃ t, X.mg x = some (.str i t)) (hg : Gl X x := by rfl) (hd : (x == ("__debug__" : Str)) = false := by decide) : PE X (.Name x pos) (tC (.str i)) := by
  obtain ⟨t, h⟩ := h
  exact pe_glob hg h ⟨t, rfl⟩ hd
end
section
variable {E : En} {ε : Ep} {μ : Mu} {a : Addr}
theorem ve_cls : VE E (tC (.ref a)) ε μ (.dat (.cls a)) := fun _ _ _ _ _ q => q _ (Dr.cls a)
/-- a written tuple of ints -/
theorem ve_tupI {vs : List V} {ds : List D} (h : ∀ H, SqT E.K H a vs) (r : ∀ G, DrA E.K G vs ds) : VE E (tC (.ref a)) ε μ (.dat (.tup ds)) := fun σ G H S Q q => q _ (Dr.tup (h G) (r G))
end
/-! ### calls with keywords -/
section
variable {X : Cx} {k k' : Nat} {x : Str} {ps ks : List Str} {F : FS} {W : WX} {e : Expr} {es : List Expr} {kws : List Keyword} {t tk0 : TA} {p pos : Pos} {g : List Value → List Value → List Value} {gV : List V → List V → List V}
/-- as Fn, with how keywords bind -/
structure FnK (P : Program) (w : World) (K : PySem.W.Frag) (mg : Str → Option Value) (base : Heap) (x : Str) (k : Nat) (ps ks : List Str) (g : List Value → List Value → List Value) (gV : List V → List V → List V) (F : FS) : Prop where
  ex : ∃ (f : Addr) (fd : FuncData), mg x = some (.ref f) ∧ PySem.W.keepIn K (.ref f) = true ∧ KBinds K fd ps ks g gV ∧ FnOk P w K mg base (L2.CX P w) k f fd ps (spF K F)
def tFnK (sp : Sp) (gV : List V → List V → List V) (W : WX) (t tk : TA) : TE := fun σ H Q => t σ H fun vs H1 => tk σ H1 fun zs H2 => sp (gV vs zs) H2 Q (WE W σ)
theorem run_fnKS {CX : CXT} {f : Addr} {fd : FuncData} {sp : Sp} {pins : List (Addr × Obj)} {σ : L2.St} {H : Hp} {s : Shared} {Q : VK} {E : XK} {us ws : List Value} {vs zs : List V} (hF : FnOk X.prog X.w X.K X.mg X.base CX k f fd ps sp) (hr : Room k X.A) (hb : KBinds X.K fd ps ks g gV) (hx : PassesAt CX X σ E)
    (I : Inv X pins σ H s) (r : Vals vs us) (rz : Vals zs ws) (h : sp (gV vs zs) H Q E) : wpAny (model X.prog X.w) X.A (call (.ref f) us (ks.zip ws)) (EP X pins σ Q) X.xe s := by
  have r2 := hb.rel r rz
  have hl : (g us ws).length = ps.length := r2.length.symm.trans (hF.len _ _ _ _ h)
  refine wpAny_call (codeAny_mono (hF.run X.A X.stack s H ⟨us, ks.zip ws⟩ (g us ws) (gV vs zs) Q E hr I.env0 (hb.to s us ws I.kIn hl) r2 h) fun q s' hq => ?_)
  cases q with
  | error e => exact hx pins H s e s' I hq
  | ok fl =>
    cases fl with
    | ret u => exact I.after hq
    | next => exact hq.elim
    | brk => exact hq.elim
    | cont => exact hq.elim
theorem pe_fnK (h : FnK X.prog X.w X.K X.mg X.base x k ps ks g gV F) (hr : Room k' X.A) (hk : k ≤ k') (hg : Gl X x) (tk : Takes X W) (ha : PA X (e :: es) t) (hkw : PK X kws tk0) (hall : (backToKw pos (keywordEach kws X.env)).all (·.1.isSome) = true := by rfl)
    (hks : (backToKw pos (keywordEach kws X.env)).filterMap (·.1) = ks := by rfl) (hdb : (x == ("__debug__" : Str)) = false := by decide) (he : starEach (e :: es) X.env = (false, eval e X.env) :: starEach es X.env := by rfl)
    (hpl : ((backTo pos (starEach (e :: es) X.env)).any (·.1) || (backToKw pos (keywordEach kws X.env)).any (·.1.isNone)) = false := by rfl) : PE X (.Call (.Name x p) (e :: es) kws pos) (tFnK (spF X.K F) gV W t tk0) := by
  obtain ⟨f, fd, hm, hkp, hb, hf⟩ := h.ex
  refine ⟨fun pins s σ H Q I q => wpAny_Call_Name_kw (ld_glob I hg hm ?_ hdb)⟩
  refine PySem.W.callWith_KW (h₀ := X.base) I.ok.mod.kin hkp hall (thn (ha.run pos pins s σ H _ I q) fun us s1 ⟨vs, H1, I1, r, q1⟩ => ?_) hpl he
  refine thn (hkw.run pos pins s1 σ H1 _ I1 q1) fun ws s2 ⟨zs, H2, I2, rz, q2⟩ => ⟨I2.kIn, ?_⟩
  rw [hks]
  exact run_fnKS hf (hr.mono hk) hb (passAt tk σ) I2 r rz q2
/-- all arguments by keywords -/
theorem pe_fnK0 (h : FnK X.prog X.w X.K X.mg X.base x k ps ks g gV F) (hr : Room k' X.A) (hk : k ≤ k') (hg : Gl X x) (tk : Takes X W) (hkw : PK X kws tk0) (hall : (backToKw pos (keywordEach kws X.env)).all (·.1.isSome) = true := by rfl)
    (hks : (backToKw pos (keywordEach kws X.env)).filterMap (·.1) = ks := by rfl) (hdb : (x == ("__debug__" : Str)) = false := by decide)
    (hpl : ((backTo pos (starEach [] X.env)).any (·.1) || (backToKw pos (keywordEach kws X.env)).any (·.1.isNone)) = false := by rfl) : PE X (.Call (.Name x p) [] kws pos) (tFnK (spF X.K F) gV W tNil tk0) := by
  obtain ⟨f, fd, hm, hkp, hb, hf⟩ := h.ex
  refine ⟨fun pins s σ H Q I q => wpAny_Call_Name_kw (ld_glob I hg hm ?_ hdb)⟩
  refine PySem.W.callWith_KW0 (h₀ := X.base) I.ok.mod.kin hkp hall ?_ hpl
  have q0 : tk0 σ H fun zs H2 => spF X.K F (gV [] zs) H2 Q (WE W σ) := q
  refine thn (hkw.run pos pins s σ H _ I q0) fun ws s2 ⟨zs, H2, I2, rz, q2⟩ => ⟨I2.kIn, ?_⟩
  rw [hks]
  exact run_fnKS hf (hr.mono hk) hb (passAt tk σ) I2 .nil rz q2
end
theorem re_fnK {E : En} {F : FS} {tA tK : TA} {gV : List V → List V → List V} {gW : List W → List W → List W} {ε : Ep} {μ : Mu} {Ψ : W → Mu → Prop} (hg : ∀ (K : PySem.W.Frag) (G : Hp) vs zs ws us, WrA K G vs ws → WrA K G zs us → WrA K G (gV vs zs) (gW ws us))
    (h : RA E tA ε μ fun ws μ1 => RA E tK ε μ1 fun us μ2 => CallF E F (gW ws us) ε μ2 Ψ) : RE E (tFnK (spF E.K F) gV E.W tA tK) ε μ Ψ := re_callK hg h
end Sn

/-! Sn: the store of draws. -/
namespace Sn
open PySem L2
theorem szs {n : Nat} (h : n ≤ 1000) : n ≤ sizeLine := Nat.le_trans h (by decide)
/-- the store's list: cells, next place, rest of a great cell, count, numbers left, lesser cell, seed -/
inductive Sto : List W → Prop
  | mk (cs : List Int) (i r c n l s : Int) (hi : 0 ≤ i) (hr : 0 ≤ r) (hn : 0 ≤ n) : Sto [.dat (.lst (cs.map .int)), .i i, .i r, .i c, .i n, .i l, .i s]
theorem cell_at {cs : List Int} {i : Int} (h0 : 0 ≤ i) (h1 : i < (cs.map D.int).length) : ∃ v, atI (cs.map D.int) i = some (.int v) := by
  have hl : i.toNat < cs.length := by rw [List.length_map] at h1; omega
  refine ⟨cs[i.toNat], atI_int h0 ?_⟩
  rw [List.getElem?_map, List.getElem?_eq_getElem hl]
  rfl
end Sn

/-! Sn: data without names of classes; pairs that are to be equal. -/
namespace Sn
open PySem L2
mutual
def D.ok : D → Bool
  | .ty _ => false
  | .cls _ => false
  | .exc _ _ _ => false
  | .tup xs => D.okL xs
  | .lst xs => D.okL xs
  | _ => true
def D.okL : List D → Bool
  | [] => true
  | d :: r => d.ok && D.okL r
end
mutual
def D.sz : D → Nat
  | .tup xs => D.szL xs + 1
  | .lst xs => D.szL xs + 1
  | _ => 1
def D.szL : List D → Nat
  | [] => 0
  | d :: r => d.sz + D.szL r
end
theorem D.sz_pos : ∀ d : D, 1 ≤ d.sz
  | .non => Nat.le_refl 1
  | .bl _ => Nat.le_refl 1
  | .int _ => Nat.le_refl 1
  | .str _ => Nat.le_refl 1
  | .ty _ => Nat.le_refl 1
  | .cls _ => Nat.le_refl 1
  | .exc _ _ _ => Nat.le_refl 1
  | .tup xs => by rw [D.sz]; omega
  | .lst xs => by rw [D.sz]; omega
theorem D.okL_mem : ∀ {ds : List D} {d : D}, D.okL ds = true → d ∈ ds → d.ok = true
  | d :: r, e, h, hm => by
    rw [D.okL, Bool.and_eq_true] at h
    rcases List.mem_cons.mp hm with rfl | hm
    · exact h.1
    · exact D.okL_mem h.2 hm
theorem D.ok_kind {d : D} (h : d.ok = true) : d.kind ≠ "?" := by
  cases d with
  | ty _ => cases h
  | cls _ => cases h
  | exc _ _ _ => cases h
  | _ => (simp only [D.kind]; decide)
def szS : List (D × D) → Nat
  | [] => 0
  | p :: r => p.2.sz + szS r
theorem szS_app : ∀ (a b : List (D × D)), szS (a ++ b) = szS a + szS b
  | [], b => by rw [List.nil_append]; simp [szS]
  | p :: a, b => by rw [List.cons_append, szS, szS, szS_app a b]; omega
theorem szS_rev : ∀ a : List (D × D), szS a.reverse = szS a
  | [] => rfl
  | p :: a => by rw [List.reverse_cons, szS_app, szS_rev a, szS, szS, szS]; omega
theorem szS_len : ∀ a : List (D × D), a.length ≤ szS a
  | [] => Nat.le_refl 0
  | p :: a => by rw [List.length_cons, szS]; have := szS_len a; have := D.sz_pos p.2; omega
theorem szS_zip : ∀ (xs ys : List D), xs.length = ys.length → szS (xs.zip ys) = D.szL ys
  | [], [], _ => rfl
  | x :: xs, y :: ys, h => by
    rw [List.zip_cons_cons, szS, D.szL, szS_zip xs ys (by simpa using h)]
  | [], _ :: _, h => by simp at h
  | _ :: _, [], h => by simp at h
theorem zip_eq : ∀ (xs ys : List D), xs.length = ys.length → ((∀ p ∈ xs.zip ys, p.1 = p.2) ↔ xs = ys)
  | [], [], _ => by simp
  | x :: xs, y :: ys, h => by
    have ih := zip_eq xs ys (by simpa using h)
    rw [List.zip_cons_cons]
    constructor
    · intro q
      have h1 : x = y := q (x, y) List.mem_cons_self
      rw [h1, ih.mp fun p hp => q p (List.mem_cons_of_mem _ hp)]
    · intro q
      cases q
      intro p hp
      rcases List.mem_cons.mp hp with rfl | hp
      · rfl
      · exact (ih.mpr rfl) p hp
  | [], _ :: _, h => by simp at h
  | _ :: _, [], h => by simp at h
def pw (p : D × D) : W := .dat (.tup [p.1, p.2])
/-- the pairs that are left: equal all of them exactly if a = b; i turns behind -/
structure SameI (a b : D) (i : Nat) (ps : List (D × D)) : Prop where
  ok : ∀ p ∈ ps, p.1.ok = true ∧ p.2.ok = true
  eq : (∀ p ∈ ps, p.1 = p.2) ↔ a = b
  sz : i + szS ps ≤ b.sz
theorem SameI.start {a b : D} (ha : a.ok = true) (hb : b.ok = true) : SameI a b 0 [(a, b)] :=
  ⟨fun p hp => by rw [List.mem_singleton.mp hp]; exact ⟨ha, hb⟩, ⟨fun h => h (a, b) List.mem_cons_self, fun h p hp => by rw [List.mem_singleton.mp hp]; exact h⟩, by simp [szS]⟩
/-- a pair of equal leaves goes -/
theorem SameI.leaf {a b d e : D} {i : Nat} {ps : List (D × D)} (h : SameI a b i ((d, e) :: ps)) (he : d = e) : SameI a b (i + 1) ps :=
  ⟨fun p hp => h.ok p (List.mem_cons_of_mem _ hp), ⟨fun q => h.eq.mp fun p hp => by
    rcases List.mem_cons.mp hp with rfl | hp
    · exact he
    · exact q p hp, fun q p hp => h.eq.mpr q p (List.mem_cons_of_mem _ hp)⟩, by
    have h1 := h.sz
    rw [szS] at h1
    simp only at h1
    have := D.sz_pos e
    omega⟩
theorem SameI.no {a b d e : D} {i : Nat} {ps : List (D × D)} (h : SameI a b i ((d, e) :: ps)) (he : d ≠ e) : ¬ a = b := fun q => he (h.eq.mpr q (d, e) List.mem_cons_self)
theorem SameI.yes {a b : D} {i : Nat} (h : SameI a b i []) : a = b := h.eq.mp fun p hp => by cases hp
/-- a pair of sequences of one length is opened -/
theorem SameI.seq {a b d e : D} {xs ys : List D} {i : Nat} {ps : List (D × D)} (h : SameI a b i ((d, e) :: ps)) (hl : xs.length = ys.length) (ox : D.okL xs = true) (oy : D.okL ys = true) (he : d = e ↔ xs = ys) (hz : e.sz = D.szL ys + 1) : SameI a b (i + 1) ((xs.zip ys).reverse ++ ps) where
  ok := fun p hp => by
    rcases List.mem_append.mp hp with hp | hp
    · have hm := List.mem_reverse.mp hp
      exact ⟨D.okL_mem ox (List.of_mem_zip hm).1, D.okL_mem oy (List.of_mem_zip hm).2⟩
    · exact h.ok p (List.mem_cons_of_mem _ hp)
  eq := by
    rw [← h.eq]
    constructor
    · intro q p hp
      rcases List.mem_cons.mp hp with rfl | hp
      · exact he.mpr ((zip_eq xs ys hl).mp fun p hp => q p (List.mem_append_left _ (List.mem_reverse.mpr hp)))
      · exact q p (List.mem_append_right _ hp)
    · intro q p hp
      rcases List.mem_append.mp hp with hp | hp
      · exact (zip_eq xs ys hl).mpr (he.mp (q (d, e) List.mem_cons_self)) p (List.mem_reverse.mp hp)
      · exact q p (List.mem_cons_of_mem _ hp)
  sz := by
    have h1 := h.sz
    rw [szS] at h1
    simp only at h1
    rw [szS_app, szS_rev, szS_zip xs ys hl]
    omega
theorem take_snoc {α : Type} {xs : List α} {i : Nat} {x : α} (h : xs[i]? = some x) : xs.take (i + 1) = xs.take i ++ [x] := by
  rw [List.take_add_one, h]
  rfl
def D.kd : D → Bool
  | .ty _ => false
  | .cls _ => false
  | .exc _ _ _ => false
  | _ => true
theorem D.kd_kind {d : D} (h : d.kd = true) : d.kind ≠ "?" := by
  cases d with
  | ty _ => cases h
  | cls _ => cases h
  | exc _ _ _ => cases h
  | _ => (simp only [D.kind]; decide)
theorem Since.less {n : Nat} {μ μ' : Mu} {G H G' H' : Hp} (s : Since (μ.drop n) G H G' H' μ') : Since μ G H G' H' μ' where
  gg := s.gg
  keep := fun a o h m => s.keep a o h fun z => m (by
    obtain ⟨q, hq, e⟩ := List.mem_map.mp z
    exact e ▸ List.mem_map_of_mem (List.mem_of_mem_drop hq))
  there := s.there
  new := fun a h m => s.new a h fun z => m (by
    obtain ⟨q, hq, e⟩ := List.mem_map.mp z
    exact e ▸ List.mem_map_of_mem (List.mem_of_mem_drop hq))
  own := fun q hq => by
    rcases s.own q hq with z | z
    · left
      obtain ⟨r, hr, e⟩ := List.mem_map.mp z
      exact e ▸ List.mem_map_of_mem (List.mem_of_mem_drop hr)
    · exact .inr z
section
variable {E : En} {t u : TS} {tt uu : TT} {ε : Ep} {μ : Mu} {Φ : Fi} {b : Bool}
/-- owned lists that are needed no more -/
theorem rs_fgt (n : Nat) (h : RS E t ε (μ.drop n) Φ) : RS E t ε μ Φ := fun σ G H C X D T =>
  h σ G H ⟨C.hold.tail n, C.slots⟩ (fun σ ε G' H' μ' cls d fs S' s' e q => X σ ε G' H' μ' cls d fs S' s'.less e q) D
    ⟨fun σ' ε' G' H' μ' S s q => T.nx σ' ε' G' H' μ' S s.less q, fun v w G' H' μ' S s r q => T.rt v w G' H' μ' S s.less r q, fun σ' ε' G' H' μ' S s q => T.bk σ' ε' G' H' μ' S s.less q, fun σ' ε' G' H' μ' S s q => T.ct σ' ε' G' H' μ' S s.less q⟩
theorem rs_ifT (h : VT E tt ε μ b) (hb : b = true) (h1 : RS E t ε μ Φ) : RS E (tIfS tt t u) ε μ Φ := rs_ifv h (fun _ => h1) fun z => by rw [hb] at z; cases z
theorem rs_ifF (h : VT E tt ε μ b) (hb : b = false) (h1 : RS E u ε μ Φ) : RS E (tIfS tt t u) ε μ Φ := rs_ifv h (fun z => by rw [hb] at z; cases z) fun _ => h1
theorem vt_orT (h : VT E tt ε μ b) (hb : b = true) : VT E (tOr tt uu) ε μ true := by
  subst hb
  exact vt_or (c := true) h fun z => by cases z
theorem vt_andF (h : VT E tt ε μ b) (hb : b = false) : VT E (tAnd tt uu) ε μ false := by
  subst hb
  exact vt_and (c := true) h fun z => by cases z
end
end Sn

/-! Sn: calls by keywords; == of data; membership. -/
namespace Sn
open PySem PySem.Spec PyProof.Rows L2
section
variable {P : Program} {w : World} {K : PySem.W.Frag} {mg : Str → Option Value} {base : Heap} {x : Str} {k : Nat} {ps ks : List Str} {F : FS} {f : Addr} {params : Arguments} {body : List Stmt} {scope : Scope}
theorem fnk_mk {g : List Value → List Value → List Value} {gV : List V → List V → List V} (h : Fn P w K mg base x k ps F) (gl : mg x = some (.ref f)) (D : ∃ fd, FunD K x x params body scope [] [] f fd)
    (rel : ∀ {vs : List V} {us : List Value} {zs : List V} {ws : List Value}, Vals vs us → Vals zs ws → Vals (gV vs zs) (g us ws))
    (hb : ∀ (kV doc pm : Value) (an : Option Addr) (cdv ct : Value) (us ws : List Value), (g us ws).length = ps.length → bindArgs (PySem.W.fnOf x x params body scope .none kV doc pm an cdv ct) ⟨us, ks.zip ws⟩ = pure (ps.zip (g us ws))) : FnK P w K mg base x k ps ks g gV F := by
  obtain ⟨fd, D⟩ := D
  obtain ⟨f1, fd1, m1, k1, _, F1, o1, l1, e1⟩ := h.ex
  have q1 : f1 = f := by
    have z := m1.symm.trans gl
    cases z
    rfl
  subst q1
  obtain ⟨oc, od, dV, kV, doc, pm, an, cdv, ct, osl, rfl, lk, hcd, hD, hK⟩ := D.ex
  have q3 := Option.some.inj (l1.symm.trans lk)
  subst q3
  have q4 := Data.func.inj e1
  subst q4
  rcases hD with ⟨_, rfl⟩ | ⟨e, _⟩
  · exact ⟨f1, _, m1, k1, ⟨fun s us ws _ hl => .of_eq (hb kV doc pm an cdv ct us ws hl), rel⟩, F1⟩
  · exact absurd rfl e
end
/-! ### == of data -/
mutual
def D.py : D → PyData
  | .non => .none
  | .bl b => .bool b
  | .int i => .int i
  | .str x => .str x
  | .tup ds => .tuple (D.pyL ds)
  | .lst ds => .list (D.pyL ds)
  | _ => .none
def D.pyL : List D → List PyData
  | [] => []
  | d :: r => d.py :: D.pyL r
end
mutual
theorem Dr.dp {K : PySem.W.Frag} {G : Hp} : ∀ (d : D) (v : V), d.ok = true → Dr K G v d → Dp K G v d.py
  | .non, _, _, h => by cases h; simp only [D.py]; exact .non
  | .bl _, _, _, h => by cases h; simp only [D.py]; exact .bl _
  | .int _, _, _, h => by cases h; simp only [D.py]; exact .int _
  | .str _, _, _, h => by cases h; simp only [D.py]; exact .str _
  | .ty _, _, o, _ => by cases o
  | .cls _, _, o, _ => by cases o
  | .exc _ _ _, _, o, _ => by cases o
  | .tup ds, _, o, h => by
    cases h with
    | tup h1 h2 =>
      rw [D.py]
      exact .tup h1 (DrA.dp ds _ (by rwa [D.ok] at o) h2)
  | .lst ds, _, o, h => by
    cases h with
    | lst h1 h2 =>
      rw [D.py]
      exact .lst h1 (DrA.dp ds _ (by rwa [D.ok] at o) h2)
theorem DrA.dp {K : PySem.W.Frag} {G : Hp} : ∀ (ds : List D) (vs : List V), D.okL ds = true → DrA K G vs ds → DpAll K G vs (D.pyL ds)
  | [], _, _, h => by cases h; rw [D.pyL]; exact .nil
  | d :: ds, _, o, h => by
    rw [D.okL, Bool.and_eq_true] at o
    cases h with
    | cons h1 h2 =>
      rw [D.pyL]
      exact .cons (Dr.dp d _ o.1 h1) (DrA.dp ds _ o.2 h2)
end
section
variable {E : En} {μ : Mu} {a b : D} {c : Bool}
theorem vo_eqD (oa : a.ok = true) (ob : b.ok = true) (ha : SeqAt.shaped a.py = true) (hb : SeqAt.shaped b.py = true) (hc : PyData.eqv a.py b.py = c) : VO E (rEqD E.K) (.dat a) (.dat b) μ (.b c) := fun G H S v1 v2 r1 r2 Q q => by
  subst hc
  exact ⟨a.py, b.py, Dr.dp a _ oa (Dr.up (show Dr E.K G v1 a from r1) S.gh), Dr.dp b _ ob (Dr.up (show Dr E.K G v2 b from r2) S.gh), ha, hb, q _ (Dr.bl _)⟩
theorem vo_neD (oa : a.ok = true) (ob : b.ok = true) (ha : SeqAt.shaped a.py = true) (hb : SeqAt.shaped b.py = true) (hc : (!PyData.eqv a.py b.py) = c) : VO E (rNeD E.K) (.dat a) (.dat b) μ (.b c) := fun G H S v1 v2 r1 r2 Q q => by
  subst hc
  exact ⟨a.py, b.py, Dr.dp a _ oa (Dr.up (show Dr E.K G v1 a from r1) S.gh), Dr.dp b _ ob (Dr.up (show Dr E.K G v2 b from r2) S.gh), ha, hb, q _ (Dr.bl _)⟩
/-! ### x in a list or a tuple of flat items -/
def D.fl : D → Bool
  | .non => true
  | .bl _ => true
  | .int _ => true
  | .str _ => true
  | _ => false
def D.v : D → V
  | .bl b => .bl b
  | .int b => .int b
  | .str b => .str b
  | _ => .non
theorem Dr.fl {K : PySem.W.Frag} {G : Hp} {v : V} {d : D} (h : Dr K G v d) (f : d.fl = true) : v = d.v ∧ flatV v = true := by
  cases h with
  | non => exact ⟨rfl, rfl⟩
  | bl _ => exact ⟨rfl, rfl⟩
  | int _ => exact ⟨rfl, rfl⟩
  | str _ => exact ⟨rfl, rfl⟩
  | _ => cases f
theorem DrA.fl {K : PySem.W.Frag} {G : Hp} : ∀ {vs : List V} {ds : List D}, DrA K G vs ds → ds.all D.fl = true → vs = ds.map D.v ∧ vs.all flatV = true
  | _, _, .nil, _ => ⟨rfl, rfl⟩
  | _, _, .cons r t, f => by
    rw [List.all_cons, Bool.and_eq_true] at f
    obtain ⟨e1, f1⟩ := r.fl f.1
    obtain ⟨e2, f2⟩ := DrA.fl t f.2
    subst e1
    subst e2
    exact ⟨rfl, by rw [List.all_cons, f1, f2]; rfl⟩
theorem vo_in {ds : List D} {neg : Bool} (hs : b.seq = some ds) (fa : a.fl = true) (fs : ds.all D.fl = true) (hc : (if neg then !inV a.v (ds.map D.v) else inV a.v (ds.map D.v)) = c) : VO E (rIn E.K neg) (.dat a) (.dat b) μ (.b c) := fun G H S v1 v2 r1 r2 Q q => by
  subst hc
  obtain ⟨p, xs, rfl, h1, h2⟩ := Dr.seqOf (show Dr E.K G v2 b from r2) hs
  obtain ⟨rfl, f1⟩ := Dr.fl (show Dr E.K G v1 a from r1) fa
  obtain ⟨rfl, f2⟩ := DrA.fl h2 fs
  exact ⟨p, _, rfl, sq_up S.gh h1, f1, f2, q _ (Dr.bl _)⟩
end
/-! ### short ends -/
section
variable {E : En} {F : FS} {μ : Mu} {ε : Ep} {ws : List W} {b : Bool} {A C : Prop} {Ψ : W → Mu → Prop}
theorem callF1 (h : F ws μ Ψ fun cls fs μ' => E.χ ε cls fs μ') : CallF E F ws ε μ Ψ := ⟨0, h⟩
theorem dt_i {ds : List D} (hu : undat ws = some ds) (hz : ds.length ≤ sizeLine) (q : Ψ (.dat (.tup ds)) μ) : DT ws μ Ψ := ⟨ds, hu, hz, q⟩
theorem br_t (h : b = true) (a : A) : (b = true → A) ∧ (b = false → C) := ⟨fun _ => a, fun z => by rw [h] at z; cases z⟩
theorem br_f (h : b = false) (c : C) : (b = true → A) ∧ (b = false → C) := ⟨fun z => (by rw [h] at z; cases z), fun _ => c⟩
theorem or_t (h : b = true) (a : A) : (b = false → C) ∧ (b = true → A) := ⟨fun z => (by rw [h] at z; cases z), fun _ => a⟩
theorem or_f (h : b = false) (c : C) : (b = false → C) ∧ (b = true → A) := ⟨fun _ => c, fun z => by rw [h] at z; cases z⟩
end
theorem Bd.add1 {n : Nat} {i j : Int} (h : Bd n i) (k : Bd n j) : Bd (n + 1) (i + j) := ⟨by
  have h1 := h.lt
  have k1 := k.lt
  have := Int.natAbs_add_le i j
  rw [Nat.pow_succ]
  omega⟩
/-! ### for over a range whose bounds are worked out -/
section
variable {E : En} {ε : Ep} {μ : Mu} {tA : TA} {t : TS} {Φ : Fi} {j : Nat}
theorem rs_forG1 (P : Int → Nat → Ep → Mu → Prop) (hv : RA E tA ε μ fun ws μ1 => ∃ n : Int, ws = [.i n] ∧ n < 2 ^ 62 ∧ -(2 ^ 62) ≤ n ∧ P n 0 ε μ1 ∧
    (∀ (i : Nat) ε' μ', (i : Int) < n → P n i ε' μ' → RS E t (ε'.set j (some (.i (i : Int)))) μ' (Φ.turn (P n (i + 1)))) ∧ ∀ ε' μ', P n n.toNat ε' μ' → Φ.nx ε' μ') : RS E (tFor (iRng1 tA) (gName j) t) ε μ Φ := fun σ G H C X D T => hv σ G H C X _ fun vs ws G1 H1 μ1 S1 s1 rs ⟨n, e, hn, hn0, h0, hs, hd⟩ => by
  subst e
  cases rs with
  | cons r r2 =>
    cases r; cases r2
    refine ⟨n, rfl, hn0, hn, for_range (lo := 0) (n := n.toNat) (fun i σ' H' => ∃ ε' G' μ', St E.K σ' ε' G' H' μ' ∧ Since μ1 G1 H1 G' H' μ' ∧ P n i ε' μ') ⟨ε, G1, μ1, C.to S1 s1, .refl μ1 G1 H1, h0⟩ ?_ ?_⟩
    · rintro i σ' H' hi ⟨ε', G', μ', C', s', p⟩
      have e0 : (0 : Int) + (i : Int) = (i : Int) := Int.zero_add _
      show t _ (σ'.set j (some (.int ((0 : Int) + (i : Int))))) H'
      rw [e0]
      exact hs i ε' μ' (by omega) p _ G' H' ⟨C'.hold, C'.slots.set j (show Wr E.K G' (.int (i : Int)) (.i (i : Int)) from Dr.int _)⟩ (X.to (s1.trans s')) _ (turn_ties T (s1.trans s') fun σ2 ε2 G2 H2 μ2 S2 s2 q => ⟨ε2, G2, μ2, S2, s'.trans s2, q⟩)
    · rintro σ' H' ⟨ε', G', μ', C', s', p⟩
      exact T.nx σ' ε' G' H' μ' C' (s1.trans s') (hd ε' μ' p)
theorem rs_forG2 (P : Int → Int → Nat → Ep → Mu → Prop) (hv : RA E tA ε μ fun ws μ1 => ∃ lo n : Int, ws = [.i lo, .i n] ∧ (-(2 ^ 62) ≤ lo ∧ lo < 2 ^ 62 ∧ -(2 ^ 62) ≤ n ∧ n < 2 ^ 62) ∧ P lo n 0 ε μ1 ∧
    (∀ (i : Nat) ε' μ', lo + (i : Int) < n → P lo n i ε' μ' → RS E t (ε'.set j (some (.i (lo + (i : Int))))) μ' (Φ.turn (P lo n (i + 1)))) ∧ ∀ ε' μ', P lo n (n - lo).toNat ε' μ' → Φ.nx ε' μ') : RS E (tFor (iRng2 tA) (gName j) t) ε μ Φ := fun σ G H C X D T => hv σ G H C X _ fun vs ws G1 H1 μ1 S1 s1 rs ⟨lo, n, e, hb, h0, hs, hd⟩ => by
  subst e
  cases rs with
  | cons r r2 =>
    cases r2 with
    | cons r3 r4 =>
      cases r; cases r3; cases r4
      refine ⟨lo, n, rfl, hb, for_range (lo := lo) (n := (n - lo).toNat) (fun i σ' H' => ∃ ε' G' μ', St E.K σ' ε' G' H' μ' ∧ Since μ1 G1 H1 G' H' μ' ∧ P lo n i ε' μ') ⟨ε, G1, μ1, C.to S1 s1, .refl μ1 G1 H1, h0⟩ ?_ ?_⟩
      · rintro i σ' H' hi ⟨ε', G', μ', C', s', p⟩
        exact hs i ε' μ' (by omega) p _ G' H' ⟨C'.hold, C'.slots.set j (show Wr E.K G' (.int (lo + (i : Int))) (.i (lo + (i : Int))) from Dr.int _)⟩ (X.to (s1.trans s')) _ (turn_ties T (s1.trans s') fun σ2 ε2 G2 H2 μ2 S2 s2 q => ⟨ε2, G2, μ2, S2, s'.trans s2, q⟩)
      · rintro σ' H' ⟨ε', G', μ', C', s', p⟩
        exact T.nx σ' ε' G' H' μ' C' (s1.trans s') (hd ε' μ' p)
end
/-! ### try, the readings found in the inner surroundings -/
def tTry (K : PySem.W.Frag) (tb : WX → TS) (l : List Cl) (Wo : WX) : TS := fun D σ H => tb (wCl K Wo D l) D σ H
theorem rs_tryD {E : En} {tb : WX → TS} {l : List Cl} {ε : Ep} {μ : Mu} {Φ : Fi} (χ' : Ep → Value → List (Str × D) → Mu → Prop) (hb : ∀ W', RS ⟨E.K, W', χ'⟩ (tb W') ε μ Φ)
    (hh : ∀ ε' cls fs μ', χ' ε' cls fs μ' → HCl E l ε' cls fs μ' Φ) : RS E (tTry E.K tb l E.W) ε μ Φ := rs_try χ' hb hh
section
variable {X : Cx} {body : List Stmt} {h₀ : ExceptHandler} {hds : List ExceptHandler} {l : List Cl} {pos : Pos} {tb : WX → TS} {Wo : WX} {tb' : List (Addr × Obj) → (Value → Shared → Prop) → WX → TS}
theorem ps_tryD (hs : X.stack = X.env :: X.outer) (hf : X.env.frame = some X.env.locals) (hN : X.N.Nodup) (tk : Takes X Wo)
    (hb : ∀ (W : WX) (pn : List (Addr × Obj)) (xe : Value → Shared → Prop), Takes (X.tr pn xe) W → PassesOwn (model X.prog X.w) X.A X.env xe → PSs (X.tr pn xe) body (tb' pn xe W))
    (hh : ClOk X (h₀ :: hds) l) (he : ∀ pn xe W, tb' pn xe W = tb W) : PS X (.Try body (h₀ :: hds) [] [] pos) (tTry X.K tb l Wo) :=
  ps_try hs hf hN tk (fun W pn xe t p => by rw [← he pn xe W]; exact hb W pn xe t p) hh
variable {x n : Str} {i : Nat} {c : Value} {ts : Addr → Value → Option Addr → TS} {ts' : Addr → Obj → Value → Option Addr → List (Addr × Obj) → TS} {b₀ : Stmt} {suite : List Stmt} {np pos' : Pos}
theorem cl_plain (hc : Names X x c) (hsu : ∀ (a : Addr) (oe : Obj) (cls : Value) (d : Option Addr) (pn : List (Addr × Obj)), Zc cls d oe → (∃ vs, oe.data = .fields vs) → PSs (X.suite a ((a, oe) :: pn)) (b₀ :: suite) (ts' a oe cls d pn)) (r : ClOk X hds l) (he : ∀ a oe cls d pn, ts' a oe cls d pn = ts a cls d) :
    ClOk X (.ExceptHandler (some (.Name x np)) none (b₀ :: suite) pos' :: hds) ((c, none, ts) :: l) := .plain hc (fun a oe cls d pn hz hf => by rw [← he a oe cls d pn]; exact hsu a oe cls d pn hz hf) r
theorem cl_named (hc : Names X x c) (hi : X.N[i]? = some n) (hln : X.env.kindOf n = some .local) (hsu : ∀ (a : Addr) (oe : Obj) (cls : Value) (d : Option Addr) (pn : List (Addr × Obj)), Zc cls d oe → (∃ vs, oe.data = .fields vs) → PSs (X.suite a ((a, oe) :: pn)) (b₀ :: suite) (ts' a oe cls d pn)) (r : ClOk X hds l) (he : ∀ a oe cls d pn, ts' a oe cls d pn = ts a cls d) :
    ClOk X (.ExceptHandler (some (.Name x np)) (some n) (b₀ :: suite) pos' :: hds) ((c, some i, ts) :: l) := .named hc hi hln (fun a oe cls d pn hz hf => by rw [← he a oe cls d pn]; exact hsu a oe cls d pn hz hf) r
end
theorem DrA.app {K : PySem.W.Frag} {G : Hp} {ys : List V} {es : List D} (t : DrA K G ys es) : ∀ {xs : List V} {ds : List D}, DrA K G xs ds → DrA K G (xs ++ ys) (ds ++ es)
  | _, _, .nil => t
  | _, _, .cons r s => .cons r (DrA.app t s)
/-! ### a < b < c; bits; two lists joined -/
section
variable {E : En} {ε : Ep} {μ : Mu} {ta tb tc : TE} {r r' : R2} {w1 w2 w3 : W} {k k2 : Bool} {Ψ : W → Mu → Prop} {i j : Int}
theorem ve_chain (ha : VE E ta ε μ w1) (hb : VE E tb ε μ w2) (hc : VE E tc ε μ w3) (h1 : VO E r w1 w2 μ (.b k)) (h2 : VO E r' w2 w3 μ (.b k2)) : VE E (tChain r r' ta tb tc) ε μ (.b (k && k2)) := fun σ G H C Q q =>
  ha σ G H C _ fun v1 r1 => hb σ G H C _ fun v2 r2 => h1 G H C.hold v1 v2 r1 r2 _ fun v rv => by
    cases rv
    refine ⟨k, rfl, ?_⟩
    cases k with
    | true => exact hc σ G H C _ fun v3 r3 => h2 G H C.hold v2 v3 r2 r3 Q q
    | false => exact q _ (Dr.bl _)
theorem re_chain (h : RE E ta ε μ fun w1 μ1 => RE E tb ε μ1 fun w2 μ2 => RO E r w1 w2 μ2 fun w μ3 => TB w μ3 fun k μ4 => (k = true → RE E tc ε μ4 fun w3 μ5 => RO E r' w2 w3 μ5 Ψ) ∧ (k = false → Ψ (.b false) μ4)) : RE E (tChain r r' ta tb tc) ε μ Ψ := fun σ G H C X Q q =>
  h σ G H C X _ fun v1 w1 G1 H1 μ1 C1 e1 r1 h1 => h1 σ G1 H1 (C.to C1 e1) (X.to e1) _ fun v2 w2 G2 H2 μ2 C2 e2 r2 h2 => h2 G2 H2 C2 v1 v2 (r1.up e2.gg) r2 _ fun v w G3 H3 μ3 C3 e3 r3 ⟨b, eb, h3⟩ => by
    subst eb
    cases r3
    refine ⟨b, rfl, ?_⟩
    have e123 := (e1.trans e2).trans e3
    cases b with
    | true => exact h3.1 rfl σ G3 H3 (C.to C3 e123) (X.to e123) _ fun v4 w4 G4 H4 μ4 C4 e4 r4 h4 => h4 G4 H4 C4 v2 v4 (r2.up (e3.gg.trans e4.gg)) r4 Q fun v w G5 H5 μ5 C5 e5 r5 q5 => q v w G5 H5 μ5 C5 ((e123.trans e4).trans e5) r5 q5
    | false => exact q _ (.b false) G3 H3 μ3 C3 e123 (Dr.bl _) (h3.2 rfl)
theorem ve_bits (h : VE E ta ε μ (.i i)) : VE E (tBits ta) ε μ (.i (Builtin.Int.intBits i : Nat)) := fun σ G H C Q q => h σ G H C _ fun v r => by
  cases r
  exact ⟨i, rfl, q _ (Dr.int _)⟩
/-- a + b, both owned: a new list, frozen -/
theorem ro_cat {ka kb : Nat} {la lb : Addr} {xs ys : List D} (ha : μ[ka]? = some (la, .lst (xs.map .dat))) (hb : μ[kb]? = some (lb, .lst (ys.map .dat))) (hz : xs.length + ys.length ≤ sizeLine) (q : Ψ (.dat (.lst (xs ++ ys))) μ) : RO E rCat (.at la) (.at lb) μ Ψ := fun G H S v1 v2 r1 r2 Q k => by
  cases r1; cases r2
  obtain ⟨_, us, hu, ru⟩ := S.lst ha
  obtain ⟨_, vs, hv, rv⟩ := S.lst hb
  have du := WrA.dats ru
  have dv := WrA.dats rv
  refine ⟨la, lb, us, vs, rfl, rfl, hu, hv, by rw [du.length, dv.length]; exact hz, fun p hp => ?_⟩
  have hg := S.gnone hp
  have da : DrA E.K G (us ++ vs) (xs ++ ys) := DrA.app dv du
  exact k _ (.dat (.lst (xs ++ ys))) _ _ μ (S.newF hp) (.newF S hp) (Dr.lst (SqL.of upd_same) (da.up (ex_new hg))) q
end
/-- << where the result has at most 10 ^ 7 bits -/
theorem cshl {n : Nat} {i j : Int} (h : Bd n i) (h0 : 0 ≤ j) (l : n + j.toNat < 100000000) : CShl i j := by
  obtain ⟨m, rfl⟩ := Int.eq_ofNat_of_zero_le h0
  exact shl_ok h.lt (by rw [Int.toNat_natCast] at l; omega)
theorem Bd.pow {b : Int} {n : Nat} (h : Bd n b) : ∀ k : Nat, Bd (n * k + 1) (b ^ k)
  | 0 => by
    exact ⟨by simp⟩
  | k + 1 => by
    have h1 := (Bd.pow h k).mul h
    rw [Int.pow_succ]
    exact h1.up (by rw [Nat.mul_succ]; omega)
end Sn

/-! Sn: fractions, in plain Lean. -/
namespace Sn
open PySem L2
def sgd (x y : Int) : Int := if y < 0 ∨ (y = 0 ∧ x < 0) then -(Int.gcd x y : Int) else (Int.gcd x y : Int)
def lowD (x y : Int) : D := .tup [.int (x.fdiv (sgd x y)), .int (y.fdiv (sgd x y))]
def redD (x y : Int) : D := if x = 0 ∧ y = 0 then .non else lowD x y
def isF (x y : Int) : Bool := if y = 0 then decide (x = 1) else (decide (y > 0) && decide ((Int.gcd x y : Int) = 1))
theorem gcd_pos {x y : Int} (h : ¬ (x = 0 ∧ y = 0)) : 0 < (Int.gcd x y : Int) := by
  rcases Nat.eq_zero_or_pos (Int.gcd x y) with e | e
  · exact absurd (Int.gcd_eq_zero_iff.mp e) h
  · omega
theorem gcd_bd {n : Nat} {x y : Int} (hx : Bd n x) (hy : Bd n y) : Bd n (Int.gcd x y : Int) := ⟨by
  show Int.gcd x y < 2 ^ n
  rcases Nat.eq_zero_or_pos y.natAbs with e | e
  · have : y = 0 := by omega
    subst this
    rw [Int.gcd_zero_right]
    exact hx.lt
  · exact Nat.lt_of_le_of_lt (Nat.gcd_le_right _ e) hy.lt⟩
/-- p / q is in lowest terms -/
structure Lt (p q : Int) : Prop where
  g : Int.gcd p q = 1
  q0 : q > 0 ∨ (q = 0 ∧ p = 1)
theorem isF_iff {p q : Int} : isF p q = true ↔ Lt p q := by
  unfold isF
  split
  · rename_i h
    subst h
    rw [decide_eq_true_eq]
    constructor
    · intro e; subst e; exact ⟨rfl, .inr ⟨rfl, rfl⟩⟩
    · intro h
      rcases h.q0 with h | h
      · omega
      · exact h.2
  · rename_i h
    rw [Bool.and_eq_true, decide_eq_true_eq, decide_eq_true_eq]
    constructor
    · intro e; exact ⟨by omega, .inl e.1⟩
    · intro e
      refine ⟨?_, by rw [e.g]; rfl⟩
      rcases e.q0 with z | z
      · exact z
      · exact absurd z.1 h
theorem sgd_mul {p q s : Int} (h : Lt p q) : sgd (p * s) (q * s) = s := by
  unfold sgd
  rw [Int.gcd_mul_right, h.g, Nat.one_mul]
  rcases h.q0 with h0 | ⟨rfl, rfl⟩
  · by_cases hs : s < 0
    · rw [if_pos (.inl (Int.mul_neg_of_pos_of_neg h0 hs))]; omega
    · have h1 : 0 ≤ q * s := Int.mul_nonneg (by omega) (by omega)
      rw [if_neg]
      · omega
      · rintro (z | ⟨z1, z2⟩)
        · omega
        · rcases Int.mul_eq_zero.mp z1 with z | z
          · omega
          · subst z; omega
  · rw [Int.zero_mul, Int.one_mul]
    split <;> omega
theorem fdiv_mul {p s : Int} (h : s ≠ 0) : (p * s).fdiv s = p := Int.mul_fdiv_cancel _ h
theorem lowD_mul {p q s : Int} (h : Lt p q) (hs : s ≠ 0) : lowD (p * s) (q * s) = .tup [.int p, .int q] := by
  unfold lowD
  rw [sgd_mul h, fdiv_mul hs, fdiv_mul hs]
/-- each pair that is not 0, 0 comes of one in lowest terms -/
theorem low_of {x y : Int} (h : ¬ (x = 0 ∧ y = 0)) : ∃ p q s, x = p * s ∧ y = q * s ∧ s ≠ 0 ∧ Lt p q ∧ lowD x y = .tup [.int p, .int q] := by
  have hg := gcd_pos h
  have hg0 : 0 < Int.gcd x y := by omega
  obtain ⟨p, hp⟩ : (Int.gcd x y : Int) ∣ x := Int.gcd_dvd_left ..
  obtain ⟨q, hq⟩ : (Int.gcd x y : Int) ∣ y := Int.gcd_dvd_right ..
  have hpq : Int.gcd p q = 1 := by
    have e : Int.gcd ((Int.gcd x y : Int) * p) ((Int.gcd x y : Int) * q) = Int.gcd x y * Int.gcd p q := by rw [Int.gcd_mul_left]; rfl
    rw [← hp, ← hq] at e
    have e2 : Int.gcd x y * 1 = Int.gcd x y * Int.gcd p q := by rw [Nat.mul_one]; exact e
    exact (Nat.eq_of_mul_eq_mul_left hg0 e2).symm
  generalize hG : (Int.gcd x y : Int) = G at hp hq hg
  by_cases hs : y < 0 ∨ (y = 0 ∧ x < 0)
  · have L : Lt (-p) (-q) := ⟨by rw [Int.neg_gcd, Int.gcd_neg]; exact hpq, by
      rcases hs with hs | ⟨hs, hs2⟩
      · left
        rcases Int.lt_trichotomy q 0 with z | z | z
        · omega
        · subst z; rw [Int.mul_zero] at hq; omega
        · have := Int.mul_pos hg z; omega
      · have q0 : q = 0 := by
          rcases Int.mul_eq_zero.mp (hq.symm.trans hs) with z | z
          · omega
          · exact z
        subst q0
        right
        refine ⟨rfl, ?_⟩
        rw [Int.gcd_zero_right] at hpq
        rcases Int.lt_trichotomy p 0 with z | z | z
        · omega
        · subst z; cases hpq
        · have := Int.mul_pos hg z; omega⟩
    refine ⟨-p, -q, -G, by rw [Int.neg_mul_neg, Int.mul_comm]; exact hp, by rw [Int.neg_mul_neg, Int.mul_comm]; exact hq, by omega, L, ?_⟩
    have e := lowD_mul L (s := -G) (by omega)
    rw [Int.neg_mul_neg, Int.neg_mul_neg, Int.mul_comm p, Int.mul_comm q, ← hp, ← hq] at e
    exact e
  · have L : Lt p q := ⟨hpq, by
      rcases Int.lt_trichotomy q 0 with z | z | z
      · have := Int.mul_neg_of_pos_of_neg hg z; omega
      · subst z
        right
        refine ⟨rfl, ?_⟩
        rw [Int.mul_zero] at hq
        rw [Int.gcd_zero_right] at hpq
        rcases Int.lt_trichotomy p 0 with z | z | z
        · have := Int.mul_neg_of_pos_of_neg hg z; omega
        · subst z; cases hpq
        · omega
      · exact .inl z⟩
    refine ⟨p, q, G, by rw [Int.mul_comm]; exact hp, by rw [Int.mul_comm]; exact hq, by omega, L, ?_⟩
    have e := lowD_mul L (s := G) (by omega)
    rw [Int.mul_comm p, Int.mul_comm q, ← hp, ← hq] at e
    exact e
theorem isF_mul {p q s : Int} (h : Lt p q) (hs : s ≠ 1) : isF (p * s) (q * s) = false := by
  rw [Bool.eq_false_iff]
  intro z
  have L := isF_iff.mp z
  have e := L.g
  rw [Int.gcd_mul_right, h.g, Nat.one_mul] at e
  have e2 : s = -1 := by omega
  subst e2
  have q0 := L.q0
  have q1 := h.q0
  omega
/-- in lowest terms exactly if lowest leaves it as it is -/
theorem isF_low {x y p q : Int} (h : ¬ (x = 0 ∧ y = 0)) (e : lowD x y = .tup [.int p, .int q]) : isF x y = decide (x = p ∧ y = q) := by
  obtain ⟨p', q', s, hx, hy, hs, L, e'⟩ := low_of h
  rw [e] at e'
  cases e'
  rw [Bool.eq_iff_iff, decide_eq_true_eq, isF_iff]
  constructor
  · intro L2
    have e2 := lowD_mul L2 (s := 1) (by decide)
    rw [Int.mul_one, Int.mul_one, e] at e2
    cases e2
    exact ⟨rfl, rfl⟩
  · rintro ⟨rfl, rfl⟩
    exact L
theorem abs_le_mul {p s : Int} (hs : s ≠ 0) : p.natAbs ≤ (p * s).natAbs := by
  rw [Int.natAbs_mul]
  exact Nat.le_mul_of_pos_right _ (by omega)
theorem at_mem {ds : List D} {r : Int} {P : D → Prop} (h0 : 0 ≤ r) (h1 : r < (ds.length : Nat)) (h : ∀ x ∈ ds, P x) : ∃ x, atI ds r = some x ∧ P x := by
  have hl : r.toNat < ds.length := by omega
  exact ⟨ds[r.toNat], Sn.atI_int h0 (List.getElem?_eq_getElem hl), h _ (List.getElem_mem hl)⟩
end Sn

/-! Sn: roots by steps, ceilings, in plain Lean. -/
namespace Sn
open PySem L2
/-- the tangent lies below the power -/
theorem tangent (s g : Int) (hs : 0 ≤ s) (hg : 0 ≤ g) : ∀ e : Nat, g * g ^ e + ((e : Int) + 1) * g ^ e * (s - g) ≤ s * s ^ e
  | 0 => by simp; omega
  | e + 1 => by
    have ih := tangent s g hs hg e
    have h1 : 0 ≤ s * (s * s ^ e - (g * g ^ e + ((e : Int) + 1) * g ^ e * (s - g))) := Int.mul_nonneg hs (by omega)
    have h2 : 0 ≤ ((e : Int) + 1) * g ^ e * ((s - g) * (s - g)) := Int.mul_nonneg (Int.mul_nonneg (by omega) (Int.pow_nonneg hg)) (by
      rcases Int.le_total 0 (s - g) with h | h
      · exact Int.mul_nonneg h h
      · have h3 := Int.mul_nonneg (show 0 ≤ -(s - g) by omega) (show 0 ≤ -(s - g) by omega)
        rwa [Int.neg_mul_neg] at h3)
    rw [Int.pow_succ, Int.pow_succ]
    have e1 : (((e + 1 : Nat) : Int)) = (e : Int) + 1 := by omega
    rw [e1]
    generalize g ^ e = G at *
    generalize s ^ e = S at *
    grind
/-- the root by steps -/
def rootN (n : Int) (e : Nat) (g : Int) : Int := (((e : Int) - 1) * g + n / g ^ (e - 1)) / (e : Int)
theorem root_above {n g : Int} {e : Nat} (he : 1 ≤ e) (hg : 1 ≤ g) (hn : 0 ≤ n) : n < (rootN n e g + 1) ^ e := by
  obtain ⟨k, rfl⟩ : ∃ k, e = k + 1 := ⟨e - 1, by omega⟩
  unfold rootN
  simp only [Nat.add_sub_cancel]
  have hp : 0 < g ^ k := Int.pow_pos (by omega)
  obtain ⟨q, hq⟩ : ∃ q, q = n / g ^ k := ⟨_, rfl⟩
  have hq1 : n < (q + 1) * g ^ k := by rw [hq]; exact Int.lt_ediv_add_one_mul_self n hp
  have hq0 : 0 ≤ q := by rw [hq]; exact Int.ediv_nonneg hn (Int.le_of_lt hp)
  rw [← hq]
  have ee : (((k + 1 : Nat) : Int)) = (k : Int) + 1 := by omega
  rw [ee]
  have e3 : ((k : Int) + 1 - 1) * g = (k : Int) * g := by rw [Int.add_sub_cancel]
  rw [e3]
  obtain ⟨t, ht⟩ : ∃ t, t = ((k : Int) * g + q) / ((k : Int) + 1) := ⟨_, rfl⟩
  have hkg : 0 ≤ (k : Int) * g := Int.mul_nonneg (by omega) (by omega)
  have ht1 : (k : Int) * g + q < (t + 1) * ((k : Int) + 1) := by rw [ht]; exact Int.lt_ediv_add_one_mul_self _ (by omega)
  have ht0 : 0 ≤ t := by rw [ht]; exact Int.ediv_nonneg (by omega) (by omega)
  rw [← ht]
  have hT := tangent (t + 1) g (by omega) (by omega) k
  rw [Int.pow_succ, Int.mul_comm _ (t + 1)]
  refine Int.lt_of_lt_of_le hq1 (Int.le_trans ?_ hT)
  have h5 : 0 ≤ ((k : Int) + 1) * (t + 1 - g) - (q + 1 - g) := by
    have : ((k : Int) + 1) * (t + 1 - g) = (t + 1) * ((k : Int) + 1) - (k : Int) * g - g := by grind
    omega
  have h6 := Int.mul_nonneg h5 (Int.le_of_lt hp)
  generalize g ^ k = G at *
  generalize (k : Int) = K at *
  grind
theorem root_stop {n g : Int} {e : Nat} (he : 1 ≤ e) (hg : 1 ≤ g) (h : g ≤ rootN n e g) : g ^ e ≤ n := by
  obtain ⟨k, rfl⟩ : ∃ k, e = k + 1 := ⟨e - 1, by omega⟩
  unfold rootN at h
  simp only [Nat.add_sub_cancel] at h
  have hp : 0 < g ^ k := Int.pow_pos (by omega)
  have ee : (((k + 1 : Nat) : Int)) = (k : Int) + 1 := by omega
  rw [ee] at h
  have e3 : ((k : Int) + 1 - 1) * g = (k : Int) * g := by rw [Int.add_sub_cancel]
  rw [e3] at h
  have h1 := (Int.le_ediv_iff_mul_le (show 0 < (k : Int) + 1 by omega)).mp h
  have h2 : g ≤ n / g ^ k := by
    have : g * ((k : Int) + 1) = (k : Int) * g + g := by grind
    omega
  have h3 := (Int.le_ediv_iff_mul_le hp).mp h2
  rw [Int.pow_succ, Int.mul_comm]
  exact h3
theorem root_pos {n r : Int} {e : Nat} (he : 1 ≤ e) (hn : 1 ≤ n) (h : n < (r + 1) ^ e) (h0 : -1 ≤ r) : 1 ≤ r := by
  rcases (by omega : r < 1 ∨ 1 ≤ r) with h1 | h1
  · rcases (by omega : r < 0 ∨ 0 ≤ r) with h2 | h2
    · have : r = -1 := by omega
      subst this
      rw [show (-1 : Int) + 1 = 0 from rfl, Int.zero_pow (by omega)] at h
      omega
    · have : r = 0 := by omega
      subst this
      rw [show (0 : Int) + 1 = 1 from rfl, Int.one_pow] at h
      omega
  · exact h1
theorem pow_self_le {r : Int} {e : Nat} (he : 1 ≤ e) (hr : 0 ≤ r) : r ≤ r ^ e := by
  obtain ⟨k, rfl⟩ : ∃ k, e = k + 1 := ⟨e - 1, by omega⟩
  rcases (by omega : 0 < r ∨ r ≤ 0) with h | h
  · rw [Int.pow_succ]
    have : 0 < r ^ k := Int.pow_pos h
    have h2 : 1 * r ≤ r ^ k * r := Int.mul_le_mul_of_nonneg_right (by omega) hr
    omega
  · have : r = 0 := by omega
    subst this
    rw [Int.zero_pow (by omega)]
    exact Int.le_refl 0
/-- the first root to begin with -/
theorem first_root {n : Int} {b e : Nat} (he : 1 ≤ e) (h : n.natAbs < 2 ^ b) : n < ((2 : Int) ^ ((b + e - 1) / e) + 1) ^ e := by
  have h1 : n < 2 ^ b := by
    have h2 : ((n.natAbs : Nat) : Int) < ((2 ^ b : Nat) : Int) := by omega
    rw [Int.natCast_pow] at h2
    have h3 : ((2 : Nat) : Int) = 2 := rfl
    rw [h3] at h2
    omega
  have h4 : b ≤ (b + e - 1) / e * e := by
    have h5 := Nat.div_add_mod (b + e - 1) e
    have h6 := Nat.mod_lt (b + e - 1) (show e > 0 by omega)
    rw [Nat.mul_comm] at h5
    omega
  have h7 : (2 : Int) ^ b ≤ 2 ^ ((b + e - 1) / e * e) := by
    have := Nat.pow_le_pow_right (show 0 < 2 by decide) h4
    have h8 : ((2 ^ b : Nat) : Int) ≤ ((2 ^ ((b + e - 1) / e * e) : Nat) : Int) := by omega
    rw [Int.natCast_pow, Int.natCast_pow] at h8
    exact h8
  rw [Int.pow_mul] at h7
  have h9 : ((2 : Int) ^ ((b + e - 1) / e)) ^ e ≤ ((2 : Int) ^ ((b + e - 1) / e) + 1) ^ e := by
    have h10 : 0 ≤ (2 : Int) ^ ((b + e - 1) / e) := Int.pow_nonneg (by decide)
    generalize (2 : Int) ^ ((b + e - 1) / e) = x at *
    clear h7 h4 h1 h
    induction e with
    | zero => simp
    | succ k ih =>
      rcases Nat.eq_zero_or_pos k with z | z
      · subst z
        rw [Int.pow_succ x 0, Int.pow_succ (x + 1) 0, Int.pow_zero, Int.pow_zero]
        omega
      · rw [Int.pow_succ, Int.pow_succ]
        exact Int.mul_le_mul (ih (by omega)) (by omega) h10 (Int.pow_nonneg (by omega))
  omega
/-- the ceiling of a / b -/
theorem ceil_ok {a b : Int} (hb : 1 ≤ b) : (-(-a / b) - 1) * b < a ∧ a ≤ -(-a / b) * b := by
  have h1 := Int.lt_ediv_add_one_mul_self (-a) (show 0 < b by omega)
  have h2 := Int.ediv_mul_le (-a) (show b ≠ 0 by omega)
  generalize -a / b = q at *
  constructor <;> grind
theorem bits_lt {n : Int} (h : n ≠ 0) : n.natAbs < 2 ^ Builtin.Int.intBits n := by
  unfold Builtin.Int.intBits
  rw [if_neg (show ¬ (n == 0) = true by simpa using h)]
  exact Nat.lt_log2_self
theorem bits_le {n : Int} {k : Nat} (h : Bd k n) : Builtin.Int.intBits n ≤ k := PyProof.Rows.intBits_le h.lt
/-- the refusal of a name, as data -/
def refD (n : Str) : D := .tup [.str "OutOfRange", .str n, .bl true, .bl true, .bl false]
end Sn

/-! Sn: enumerate over a tuple. -/
namespace Sn
open PySem PySem.Spec PyProof.Rows L2 RZ
theorem newEnumB {v : Value} {o : Obj} {H : Heap → Prop} (B : Begins v o H) : Meets (Builtin.«enumerate.__new__» ⟨[.type "enumerate", v], []⟩)
    (fun _ R s => H s.heap ∧ R (.ok (.ret (.ref (s.heap.push o).objs.size)))
      { s with heap := (s.heap.push o).push { cls := .type "enumerate", data := .fields #[.none, .bool false, .ref s.heap.objs.size, rawInt 0, .none, .none] } }) := by
  refine .of_wp fun prog w A R s h => ?_
  obtain ⟨hp, g, d, tk, os⟩ := s
  obtain ⟨hH, hR⟩ := h
  have _sub := sub_enumerate
  have go : ∀ {A' : Around} {E Q : Value → Shared → Prop}, Q (.ref hp.objs.size) ⟨hp.push o, g, d, tk, os⟩ → wpAny (model prog w) A' (pyIter v) Q E ⟨hp, g, d, tk, os⟩ := fun q => B.iter _ _ _ _ _ _ hH q
  wp_walk using go
  refine wpAny_stack_any fun st => (wpAny_pure ?_)
  split
  · rename_i c _ _ _ _ _
    cases (c == Value.type "enumerate") <;> (wp_walk using go; exact ⟨_, rfl, hR⟩)
  · wp_walk using go
    exact ⟨_, rfl, hR⟩
theorem call_enumB {prog : Program} {w : World} {A : Around} {E : Value → Shared → Prop} {s : Shared} {v : Value} {o : Obj} {H : Heap → Prop} {Q : Value → Shared → Prop} (B : Begins v o H) (h1 : H s.heap)
    (h : ∀ h', IsEnum h' (s.heap.objs.size + 1) s.heap.objs.size 0 .none → h'.get? s.heap.objs.size = some o → h'.objs.size = s.heap.objs.size + 2 → (∀ b o, s.heap.get? b = some o → h'.get? b = some o) → Q (.ref (s.heap.objs.size + 1)) { s with heap := h' }) :
    wpAny (model prog w) A (call (.type "enumerate") [v]) Q E s := by
  refine callType_new F.called_enumerate (by decide) (F.typeCall_enumerate_1 _) (F.newCall_enumerate_1 _) (fun b => F.args_object_init_2 b _) F.entry_enumerate_new (newEnumB B) ⟨h1, ?_⟩
  have z := Heap.size_push s.heap o
  have e : (s.heap.push o).objs.size = s.heap.objs.size + 1 := by first | exact z | simpa using z
  show _ ∧ _
  rw [e]
  have q := Heap.get?_push_size (s.heap.push o) (o := { cls := .type "enumerate", data := .fields #[.none, .bool false, .ref s.heap.objs.size, rawInt 0, .none, .none] }) rfl
  rw [e] at q
  refine ⟨⟨_, q, rfl⟩, h _ q ?_ ?_ fun b u x => ?_⟩
  · exact Heap.get?_push_of_some _ (Heap.get?_push_size _ B.free)
  · rw [Heap.size_push, e]
  · exact Heap.get?_push_of_some _ (Heap.get?_push_of_some _ x)
/-- enumerate over the tuple at a -/
def ItE (K : PySem.W.Frag) (a : Addr) : It where
  go := fun i H => ∃ (xs : List V) (x : V), SqT K H a xs ∧ xs[i]? = some x
  yld := fun i H v H' => ∃ T x, v = .ref T ∧ H T = none ∧ H' = upd H T (.tup [.int (i : Nat), x]) ∧ ∀ xs, SqT K H a xs → xs[i]? = some x
  stop := fun i H => ∃ xs : List V, SqT K H a xs ∧ xs.length = i
theorem walk_enumT {K : PySem.W.Frag} {a : Addr} {xs : List V} : Walk (ItE K a) xs.length (fun H => SqT K H a xs) (YPair (fun i => some (.int (i : Nat))) (fun i => xs[i]?)) where
  goes := fun i _ hi q => ⟨xs, xs[i], q, by simp [hi]⟩
  stops := fun _ q => ⟨xs, q, rfl⟩
  yields := fun i H v H' _ q ⟨T, x, h1, h2, h3, h4⟩ => ⟨T, .int (i : Nat), x, h1, h2, h3, rfl, h4 xs q⟩
theorem walk_zipT {K : PySem.W.Frag} {a b : Addr} {xs ys : List V} {n : Nat} (hn : n = min xs.length ys.length) : Walk (ItzT K a b) n (fun H => SqT K H a xs ∧ SqT K H b ys) (YPair (fun i => xs[i]?) (fun i => ys[i]?)) where
  goes := fun i _ hi q => ⟨xs, ys, xs[i]'(by omega), ys[i]'(by omega), q.1, q.2, by simp [show i < xs.length by omega], by simp [show i < ys.length by omega]⟩
  stops := fun _ q => ⟨xs, ys, q.1, q.2, by omega⟩
  yields := fun i H v H' _ q ⟨T, x, z, h1, h2, h3, h4, h5⟩ => ⟨T, x, z, h1, h2, h3, h4 xs q.1, h5 ys q.2⟩
theorem turn_enumT {P : Program} {w : World} {K : PySem.W.Frag} {elts : List Expr} {kk : Nat} {tpos : Pos} (a e it : Addr) :
    Turn P w K (.Tuple elts kk tpos) (ItE K a) [e, it] e (fun i h => (∃ old, IsEnum h e it ((i : Nat) : Int) old) ∧ h.IsTupleIter it a i ∧ e ≠ it ∧ a ≠ it) where
  mem := by simp
  obj := fun i h st b hb => by
    obtain ⟨⟨old, he⟩, ⟨o, ho, hc, hd⟩, _⟩ := st
    rcases (by simpa using hb : b = e ∨ b = it) with rfl | rfl
    · exact ⟨_, he, fun v q => nomatch q⟩
    · exact ⟨o, ho, fun v q => by rw [hd] at q; cases q⟩
  keep := fun i h h' st k => by
    obtain ⟨⟨old, he⟩, hi, hne, hna⟩ := st
    exact ⟨⟨old, k e (by simp) _ he⟩, hi.at fun o q => k it (by simp) o q, hne, hna⟩
  item := by
    intro X hP hw hK hc i pins s σ H E I hf st hg
    subst hP hw hK
    obtain ⟨⟨old, he⟩, hit, hne, hna⟩ := st
    obtain ⟨xs, x, hq, hx⟩ := hg
    obtain ⟨its, rv, p, hz⟩ := I.tuple hq
    obtain ⟨u, hu, ru⟩ := rv.get hx
    have hel : e < s.heap.objs.size := Heap.lt_size he
    have hil : it < s.heap.objs.size := by obtain ⟨_, q, _⟩ := hit; exact Heap.lt_size q
    have hlt : i < its.toArray.size := by
      have h1 := (List.getElem?_eq_some_iff.mp hu).1
      simpa using h1
    have hae : e ≠ a := fun z => by
      obtain ⟨o, ho, hc', _⟩ := p
      rw [← z, he] at ho
      have e2 := Option.some.inj ho
      rw [← e2] at hc'
      exact absurd hc' (by simp)
    refine wpAny_pyNext_enum_itemD (Draws.tuple (by exact I.ok.hd hc) it a hna its.toArray) he ⟨hit, p⟩ hlt hne (by simp [hne, hae]) fun y h' tk hP ho hst hT hsz hk => ?_
    have ey : y = u := by
      have h1 : its.toArray[i]? = some u := by simpa using hu
      rw [hP] at h1
      exact Option.some.inj h1
    subst ey
    refine ⟨_, rfl, wpAny_letOwnedTupleGo_enum (s := { s with heap := h', toks := tk + 1 }) ho fun h'' he' sb => ?_⟩
    have hT2 : h''.get? s.heap.objs.size = some { cls := .type "tuple", data := .seq #[.int i tk, y] } := (sb.2 _ (Nat.ne_of_gt hel)).trans hT
    have new : ObjOk X.prog X.w (upd H s.heap.objs.size (.tup [.int (i : Nat), x])) h'' s.heap.objs.size (.tup [.int (i : Nat), x]) := ⟨by show 2 ≤ sizeLine; decide, [.int i tk, y], .cons ⟨_, rfl⟩ (.cons ru .nil), ⟨_, hT2, rfl, _, rfl⟩⟩
    have I1 : Inv X pins σ (upd H s.heap.objs.size (.tup [.int (i : Nat), x])) { s with heap := h'', toks := tk + 1 } :=
      I.turnedNew (t' := tk + 1) (ch := [e, it]) (fun b ob hb q => (sb.2 b fun z => hb (by simp [z])).trans (hk b ob (fun z => hb (by simp [z])) (fun z => hb (by simp [z])) q)) hf (Nat.le_refl _) new
    refine ⟨.ref s.heap.objs.size, _, I1, rfl, ⟨_, x, rfl, I.hok.fresh (Nat.le_refl _), rfl, fun ys hy => ?_⟩, ⟨⟨y, ?_⟩, hst.1.at fun o q => (sb.2 it (Ne.symm hne)).trans q, hne, hna⟩, fun b hb => ?_⟩
    · rw [I.tuple_inj hy hq]; exact hx
    · rw [show ((i + 1 : Nat) : Int) = (i : Int) + 1 by omega]; exact he'
    · have hb' : b < s.heap.objs.size := by
        rcases (by simpa using hb : b = e ∨ b = it) with rfl | rfl
        · exact hel
        · exact hil
      rw [upd_ne (Nat.ne_of_lt hb')]
      exact (hf b hb).1
  done := by
    intro X hP hw hK hc i pins s σ H E I hf st hg
    subst hP hw hK
    obtain ⟨⟨old, he⟩, hit, hne, hna⟩ := st
    obtain ⟨xs, hq, hx⟩ := hg
    obtain ⟨its, rv, p, hz⟩ := I.tuple hq
    have hn : i = its.toArray.size := by
      rw [List.size_toArray, ← rv.length, hx]
    subst hn
    refine wpAny_pyNext_enum_endD (Draws.tuple (by exact I.ok.hd hc) it a hna its.toArray) he ⟨hit, p⟩ fun h' eb => ⟨rfl, ?_⟩
    obtain ⟨f0, f1, f2, f3, f4, f5⟩ := hf it (by simp)
    exact I.turned (t' := s.toks) (fun b o hb q => eb b o hb q) f0 f1 f3 f4 f5
  self := fun A i s Q E st h => by
    obtain ⟨⟨_, he⟩, _⟩ := st
    exact wpAny_pyIter_enum he h
end Sn

/-! Sn: iterators over data, for loops and list comprehensions over them. -/
namespace Sn
open PySem PySem.Spec PyProof.Rows L2 RZ
/-- an iterator over the data ds, some of them new at their turn -/
def RI (E : En) (ti : TI) (ε : Ep) (μ : Mu) (Ψ : List D → Mu → Prop) : Prop := ∀ σ G H, St E.K σ ε G H μ → XOk E μ G H → ∀ R : It → Hp → Prop,
  (∀ (J : It) (ds : List D) (Gi : Hp → Prop) (Y : Nat → Hp → V → Hp → Prop) G1 H1 μ1, Hold E.K G1 H1 μ1 → Since μ G H G1 H1 μ1 → Walk J ds.length Gi Y → (∀ H', Ex G1 H' → Gi H') →
    (∀ i H' x H'' G' μ', Hold E.K G' H' μ' → Ex G1 G' → i < ds.length → Y i H' x H'' → ∃ G'' d, Hold E.K G'' H'' μ' ∧ Since μ' G' H' G'' H'' μ' ∧ ds[i]? = some d ∧ Dr E.K G'' x d) → Ψ ds μ1 → R J H1) → ti σ H R
section
variable {E : En} {ε : Ep} {μ : Mu} {te : TE} {tA : TA} {t : TS} {g : TG} {Φ : Fi} {ti : TI} {Ψ : List D → Mu → Prop}
theorem rs_forI (hv : RI E ti ε μ fun ds μ1 => ∃ P : Nat → Ep → Mu → Prop, P 0 ε μ1 ∧ (∀ (i : Nat) d ε' μ', ds[i]? = some d → P i ε' μ' → RG E g (.dat d) ε' μ' fun ε2 μ2 => RS E t ε2 μ2 (Φ.turn (P (i + 1)))) ∧ ∀ ε' μ', P ds.length ε' μ' → Φ.nx ε' μ') : RS E (tFor ti g t) ε μ Φ := fun σ G H C X D T =>
  hv σ G H C X _ fun J ds Gi Y G1 H1 μ1 S1 s1 w hg hy ⟨P, h0, hs, hd⟩ => by
    refine for_it w (fun i σ' H' => ∃ ε' G' μ', St E.K σ' ε' G' H' μ' ∧ Since μ1 G1 H1 G' H' μ' ∧ P i ε' μ') ⟨ε, G1, μ1, C.to S1 s1, .refl μ1 G1 H1, h0⟩ ?_ ?_ ?_
    · rintro i σ' H' _ ⟨ε', G', μ', C', s', p⟩
      exact hg H' (s'.gg.trans C'.hold.gh)
    · rintro i x σ' H' H'' hi ⟨ε', G', μ', C', s', p⟩ y
      obtain ⟨G2, d, S2, s2, hd1, rd⟩ := hy i H' x H'' G' μ' C'.hold s'.gg hi y
      exact hs i d ε' μ' hd1 p σ' G2 H'' (C'.to S2 s2) x (show Wr E.K G2 x (.dat d) from rd) _ fun σ3 ε3 G3 H3 μ3 S3 s3 q => q σ3 G3 H3 S3 (X.to (s1.trans ((s'.trans s2).trans s3))) _ (turn_ties T (s1.trans ((s'.trans s2).trans s3)) fun σ4 ε4 G4 H4 μ4 S4 s4 q4 => ⟨ε4, G4, μ4, S4, ((s'.trans s2).trans s3).trans s4, q4⟩)
    · rintro σ' H' ⟨ε', G', μ', C', s', p⟩
      exact T.nx σ' ε' G' H' μ' C' (s1.trans s') (hd ε' μ' p)
/-! ### the iterators -/
theorem ri_list (h : RE E te ε μ fun w μ1 => ∃ ds, w = .dat (.lst ds) ∧ Ψ ds μ1) : RI E (iList E.K te) ε μ Ψ := fun σ G H C X R k => h σ G H C X _ fun v w G1 H1 μ1 S1 s1 r ⟨ds, e, q⟩ => by
  subst e
  cases r with
  | @lst a xs _ hq ha =>
    refine ⟨a, rfl, ⟨xs, Evl.ex_l S1.gh hq⟩, ?_⟩
    refine k (Itl E.K a) ds (fun H' => SqL E.K H' a xs) (YAt xs) G1 H1 μ1 S1 s1 (by rw [← ha.length]; exact walk_list) (fun H' e => Evl.ex_l e hq) (fun i H' x H'' G' μ' S' e' hi y => ?_) q
    obtain ⟨rfl, hx⟩ := y
    obtain ⟨d, h1, h2⟩ := ha.get' hx
    exact ⟨G', d, S', .refl μ' G' _, h1, h2.up e'⟩
theorem ri_tup (h : RE E te ε μ fun w μ1 => ∃ ds, w = .dat (.tup ds) ∧ Ψ ds μ1) : RI E (iTup E.K te) ε μ Ψ := fun σ G H C X R k => h σ G H C X _ fun v w G1 H1 μ1 S1 s1 r ⟨ds, e, q⟩ => by
  subst e
  cases r with
  | @tup a xs _ hq ha =>
    refine ⟨a, rfl, ⟨xs, Evl.ex_t S1.gh hq⟩, ?_⟩
    refine k (Itt E.K a) ds (fun H' => SqT E.K H' a xs) (YAt xs) G1 H1 μ1 S1 s1 (by rw [← ha.length]; exact walk_tup) (fun H' e => Evl.ex_t e hq) (fun i H' x H'' G' μ' S' e' hi y => ?_) q
    obtain ⟨rfl, hx⟩ := y
    obtain ⟨d, h1, h2⟩ := ha.get' hx
    exact ⟨G', d, S', .refl μ' G' _, h1, h2.up e'⟩
def rng (lo : Int) (n : Nat) : List D := (List.range n).map fun i : Nat => D.int (lo + (i : Int))
theorem rng_length (lo : Int) (n : Nat) : (rng lo n).length = n := by simp [rng]
theorem rng_at {lo : Int} {n i : Nat} (h : i < n) : (rng lo n)[i]? = some (.int (lo + (i : Int))) := by simp [rng, h]
theorem ri_rng1 (h : RA E tA ε μ fun ws μ1 => ∃ n : Int, ws = [.i n] ∧ n < 2 ^ 62 ∧ -(2 ^ 62) ≤ n ∧ Ψ (rng 0 n.toNat) μ1) : RI E (iRng1 tA) ε μ Ψ := fun σ G H C X R k => h σ G H C X _ fun vs ws G1 H1 μ1 S1 s1 rs ⟨n, e, h1, h2, q⟩ => by
  subst e
  cases rs with
  | cons r r2 =>
    cases r; cases r2
    refine ⟨n, rfl, h2, h1, ?_⟩
    refine k (Itr 0 n.toNat) (rng 0 n.toNat) (fun _ => True) (YFn fun i => .int (0 + (i : Int))) G1 H1 μ1 S1 s1 (by rw [rng_length]; exact walk_range) (fun _ _ => trivial) (fun i H' x H'' G' μ' S' e' hi y => ?_) q
    obtain ⟨rfl, rfl⟩ := y
    rw [rng_length] at hi
    exact ⟨G', _, S', .refl μ' G' _, rng_at hi, Dr.int _⟩
theorem ri_rng2 (h : RA E tA ε μ fun ws μ1 => ∃ lo n : Int, ws = [.i lo, .i n] ∧ (-(2 ^ 62) ≤ lo ∧ lo < 2 ^ 62 ∧ -(2 ^ 62) ≤ n ∧ n < 2 ^ 62) ∧ Ψ (rng lo (n - lo).toNat) μ1) : RI E (iRng2 tA) ε μ Ψ := fun σ G H C X R k => h σ G H C X _ fun vs ws G1 H1 μ1 S1 s1 rs ⟨lo, n, e, h1, q⟩ => by
  subst e
  cases rs with
  | cons r r2 =>
    cases r2 with
    | cons r3 r4 =>
      cases r; cases r3; cases r4
      refine ⟨lo, n, rfl, h1, ?_⟩
      refine k (Itr lo (n - lo).toNat) (rng lo (n - lo).toNat) (fun _ => True) (YFn fun i => .int (lo + (i : Int))) G1 H1 μ1 S1 s1 (by rw [rng_length]; exact walk_range) (fun _ _ => trivial) (fun i H' x H'' G' μ' S' e' hi y => ?_) q
      obtain ⟨rfl, rfl⟩ := y
      rw [rng_length] at hi
      exact ⟨G', _, S', .refl μ' G' _, rng_at hi, Dr.int _⟩
/-- pairs (i, d) -/
def enm (ds : List D) : List D := (List.range ds.length).zipWith (fun (i : Nat) d => D.tup [.int (i : Int), d]) ds
theorem enm_length (ds : List D) : (enm ds).length = ds.length := by simp [enm]
theorem enm_at {ds : List D} {i : Nat} {d : D} (h : ds[i]? = some d) : (enm ds)[i]? = some (.tup [.int (i : Int), d]) := by
  have hl := (List.getElem?_eq_some_iff.mp h).1
  unfold enm
  rw [List.getElem?_zipWith, h, List.getElem?_range hl]
theorem pair_new {K : PySem.W.Frag} {G1 G' H' : Hp} {μ' : Mu} {T : Addr} {x y : V} {d1 d2 : D} (S' : Hold K G' H' μ') (hT : H' T = none) (r1 : Dr K G' x d1) (r2 : Dr K G' y d2) :
    ∃ G'' d, Hold K G'' (upd H' T (.tup [x, y])) μ' ∧ Since μ' G' H' G'' (upd H' T (.tup [x, y])) μ' ∧ d = D.tup [d1, d2] ∧ Dr K G'' (.ref T) d := by
  have hg := S'.gnone hT
  exact ⟨upd G' T (.tup [x, y]), _, S'.newF hT, .newF S' hT, rfl, Dr.tup (SqT.of upd_same) (.cons (r1.up (ex_new hg)) (.cons (r2.up (ex_new hg)) .nil))⟩
theorem ri_enum (h : RA E tA ε μ fun ws μ1 => ∃ ds, ws = [.dat (.lst ds)] ∧ Ψ (enm ds) μ1) : RI E (iEnum E.K tA) ε μ Ψ := fun σ G H C X R k => h σ G H C X _ fun vs ws G1 H1 μ1 S1 s1 rs ⟨ds, e, q⟩ => by
  subst e
  cases rs with
  | cons r r2 =>
    cases r2
    cases r with
    | @lst a xs _ hq ha =>
      refine ⟨a, xs, rfl, Evl.ex_l S1.gh hq, ?_⟩
      refine k (Ite E.K a) (enm ds) (fun H' => SqL E.K H' a xs) _ G1 H1 μ1 S1 s1 (by rw [enm_length, ← ha.length]; exact walk_enum) (fun H' e => Evl.ex_l e hq) (fun i H' x H'' G' μ' S' e' hi y => ?_) q
      obtain ⟨T, u, v, rfl, hT, rfl, h1, h2⟩ := y
      cases h1
      obtain ⟨d, h3, h4⟩ := ha.get' h2
      obtain ⟨G2, d2, a1, a2, rfl, a4⟩ := pair_new (G1 := G1) S' hT (Dr.int (i : Int)) (h4.up e')
      exact ⟨G2, _, a1, a2, enm_at h3, a4⟩
def iEnumT (K : PySem.W.Frag) (ta : TA) : TI := fun σ H R => ta σ H fun vs H1 => ∃ a xs, vs = [.ref a] ∧ SqT K H1 a xs ∧ R (ItE K a) H1
theorem pi_enumT {X : Cx} {e : Expr} {ta : TA} {p pos tpos : Pos} {elts : List Expr} {kk : Nat} (hg : Gl X "enumerate") (hm : X.mg "enumerate" = none) (ha : PA X [e] ta) (hs : starEach [e] X.env = [(false, eval e X.env)] := by rfl) :
    PI X (.Tuple elts kk tpos) (.Call (.Name "enumerate" p) [e] [] pos) (iEnumT X.K ta) := by
  refine ⟨fun pins s σ H R I h => ?_⟩
  refine Call_ (ld_blt I hg hm boot_enumerate (PyProof.Rows.callWith_type1 (thn (ha.run pos pins s σ H _ I h) fun us s1 ⟨vs, H1, I1, r1, q1⟩ => ?_) hs rfl))
  obtain ⟨a, xs, ex, hq, q⟩ := q1
  subst ex
  cases r1 with
  | cons r rr =>
    cases rr
    cases r
    obtain ⟨its, rv, p', hz⟩ := I1.tuple hq
    have hal : a < s1.heap.objs.size := by
      obtain ⟨o, ho, _⟩ := p'
      exact Heap.lt_size ho
    refine call_enumB (begins_tuple a its.toArray) p' fun h' he hit hsz hk => wpAny_pyIter_enum he ?_
    have I2 : Inv X pins σ H1 { s1 with heap := h' } := I1.kept (t' := s1.toks) hk
    refine ⟨s1.heap.objs.size + 1, [s1.heap.objs.size + 1, s1.heap.objs.size], _, _, H1, rfl, I2, turn_enumT a (s1.heap.objs.size + 1) s1.heap.objs.size, ⟨⟨.none, he⟩, ⟨_, hit, rfl, rfl⟩, Nat.succ_ne_self _, Nat.ne_of_lt hal⟩, fun b hb => ?_, q⟩
    have hle : s1.heap.objs.size ≤ b := by
      rcases (by simpa using hb : b = s1.heap.objs.size + 1 ∨ b = s1.heap.objs.size) with z | z
      · rw [z]; exact Nat.le_add_right _ _
      · rw [z]; exact Nat.le_refl _
    exact I1.fpOk hle (I1.hok.fresh hle)
theorem ri_enumT (h : RA E tA ε μ fun ws μ1 => ∃ ds, ws = [.dat (.tup ds)] ∧ Ψ (enm ds) μ1) : RI E (iEnumT E.K tA) ε μ Ψ := fun σ G H C X R k => h σ G H C X _ fun vs ws G1 H1 μ1 S1 s1 rs ⟨ds, e, q⟩ => by
  subst e
  cases rs with
  | cons r r2 =>
    cases r2
    cases r with
    | @tup a xs _ hq ha =>
      refine ⟨a, xs, rfl, Evl.ex_t S1.gh hq, ?_⟩
      refine k (ItE E.K a) (enm ds) (fun H' => SqT E.K H' a xs) _ G1 H1 μ1 S1 s1 (by rw [enm_length, ← ha.length]; exact walk_enumT) (fun H' e => Evl.ex_t e hq) (fun i H' x H'' G' μ' S' e' hi y => ?_) q
      obtain ⟨T, u, v, rfl, hT, rfl, h1, h2⟩ := y
      cases h1
      obtain ⟨d, h3, h4⟩ := ha.get' h2
      obtain ⟨G2, d2, a1, a2, rfl, a4⟩ := pair_new (G1 := G1) S' hT (Dr.int (i : Int)) (h4.up e')
      exact ⟨G2, _, a1, a2, enm_at h3, a4⟩
/-- pairs of two -/
def zpd (xs ys : List D) : List D := xs.zipWith (fun a b => D.tup [a, b]) ys
theorem zpd_at {xs ys : List D} {i : Nat} {a b : D} (h1 : xs[i]? = some a) (h2 : ys[i]? = some b) : (zpd xs ys)[i]? = some (.tup [a, b]) := by
  unfold zpd
  rw [List.getElem?_zipWith, h1, h2]
theorem ri_zip (h : RA E tA ε μ fun ws μ1 => ∃ ds es, (ws = [.dat (.tup ds), .dat (.tup es)] ∨ ws = [.dat (.lst ds), .dat (.lst es)]) ∧ Ψ (zpd ds es) μ1) : RI E (iZipA E.K tA) ε μ Ψ := fun σ G H C X R k => h σ G H C X _ fun vs ws G1 H1 μ1 S1 s1 rs ⟨ds, es, e, q⟩ => by
  rcases e with e | e
  · subst e
    cases rs with
    | cons r r2 =>
      cases r2 with
      | cons r3 r4 =>
        cases r4
        cases r with
        | @tup a xs _ hq ha =>
          cases r3 with
          | @tup b ys _ hq2 ha2 =>
            refine ⟨a, b, xs, ys, rfl, .inr ⟨Evl.ex_t S1.gh hq, Evl.ex_t S1.gh hq2, ?_⟩⟩
            refine k (ItzT E.K a b) (zpd ds es) (fun H' => SqT E.K H' a xs ∧ SqT E.K H' b ys) _ G1 H1 μ1 S1 s1 (walk_zipT (by simp [zpd, ha.length, ha2.length])) (fun H' e => ⟨Evl.ex_t e hq, Evl.ex_t e hq2⟩) (fun i H' x H'' G' μ' S' e' hi y => ?_) q
            obtain ⟨T, u, v, rfl, hT, rfl, h1, h2⟩ := y
            obtain ⟨d1, h3, h4⟩ := ha.get' h1
            obtain ⟨d2, h5, h6⟩ := ha2.get' h2
            obtain ⟨G2, d3, a1, a2, rfl, a4⟩ := pair_new (G1 := G1) S' hT (h4.up e') (h6.up e')
            exact ⟨G2, _, a1, a2, zpd_at h3 h5, a4⟩
  · subst e
    cases rs with
    | cons r r2 =>
      cases r2 with
      | cons r3 r4 =>
        cases r4
        cases r with
        | @lst a xs _ hq ha =>
          cases r3 with
          | @lst b ys _ hq2 ha2 =>
            refine ⟨a, b, xs, ys, rfl, .inl ⟨Evl.ex_l S1.gh hq, Evl.ex_l S1.gh hq2, ?_⟩⟩
            refine k (Itz E.K a b) (zpd ds es) (fun H' => SqL E.K H' a xs ∧ SqL E.K H' b ys) _ G1 H1 μ1 S1 s1 (walk_zip (by simp [zpd, ha.length, ha2.length])) (fun H' e => ⟨Evl.ex_l e hq, Evl.ex_l e hq2⟩) (fun i H' x H'' G' μ' S' e' hi y => ?_) q
            obtain ⟨T, u, v, rfl, hT, rfl, h1, h2⟩ := y
            obtain ⟨d1, h3, h4⟩ := ha.get' h1
            obtain ⟨d2, h5, h6⟩ := ha2.get' h2
            obtain ⟨G2, d3, a1, a2, rfl, a4⟩ := pair_new (G1 := G1) S' hT (h4.up e') (h6.up e')
            exact ⟨G2, _, a1, a2, zpd_at h3 h5, a4⟩
end
end Sn

/-! Sn: list comprehensions. -/
namespace Sn
open PySem PySem.Spec PyProof.Rows L2 RZ
def wipeE (ε : Ep) : List Nat → Ep
  | [] => ε
  | v :: vs => (wipeE ε vs).set v none
theorem Slots.wipe {K : PySem.W.Frag} {G : Hp} {σ : L2.St} {ε : Ep} (h : Slots K G σ ε) : ∀ vs, Slots K G (L2.wipe σ vs) (wipeE ε vs)
  | [] => h
  | v :: vs => (Slots.wipe h vs).unset v
theorem wipe_a {σ : L2.St} {i : Nat} {x : Option V} : ∀ r : List Nat, (L2.wipe (σ.set i x) r).set i none = (L2.wipe σ r).set i none
  | [] => by show (σ.set i x).set i none = σ.set i none; rw [List.set_set]
  | v :: r => by
    show ((L2.wipe (σ.set i x) r).set v none).set i none = ((L2.wipe σ r).set v none).set i none
    by_cases e : v = i
    · subst e
      rw [List.set_set, List.set_set]
      exact wipe_a r
    · rw [List.set_comm _ _ e, wipe_a r, List.set_comm _ _ (Ne.symm e)]
theorem wipe_b {σ : L2.St} {i : Nat} {x : Option V} : ∀ {vs : List Nat}, i ∈ vs → L2.wipe (σ.set i x) vs = L2.wipe σ vs
  | v :: r, h => by
    show (L2.wipe (σ.set i x) r).set v none = (L2.wipe σ r).set v none
    by_cases e : v = i
    · subst e
      exact wipe_a r
    · rw [wipe_b (vs := r) (by
        rcases List.mem_cons.mp h with z | z
        · exact absurd z.symm e
        · exact z)]
theorem wipe_c {σ : L2.St} {vs : List Nat} : ∀ ws : List Nat, (∀ i ∈ ws, i ∈ vs) → L2.wipe (L2.wipe σ ws) vs = L2.wipe σ vs
  | [], _ => rfl
  | v :: ws, h => by
    show L2.wipe ((L2.wipe σ ws).set v none) vs = _
    rw [wipe_b (h v List.mem_cons_self)]
    exact wipe_c ws fun i hi => h i (List.mem_cons_of_mem _ hi)
/-- a target within a block: it touches the block's own slots alone -/
def RGW (E : En) (vs : List Nat) (g : TG) (w : W) (ε : Ep) (μ : Mu) (Ψ : Ep → Mu → Prop) : Prop := ∀ σ G H, St E.K σ ε G H μ → ∀ v, Wr E.K G v w → ∀ Q : L2.St → Hp → Prop, (∀ σ' ε' G' H' μ', St E.K σ' ε' G' H' μ' → Since μ G H G' H' μ' → L2.wipe σ' vs = L2.wipe σ vs → Ψ ε' μ' → Q σ' H') → g v σ H Q
def RGWs (E : En) (vs : List Nat) (g : TGs) (ws : List W) (ε : Ep) (μ : Mu) (Ψ : Ep → Mu → Prop) : Prop := ∀ σ G H, St E.K σ ε G H μ → ∀ us, WrA E.K G us ws → ∀ Q : L2.St → Hp → Prop, (∀ σ' ε' G' H' μ', St E.K σ' ε' G' H' μ' → Since μ G H G' H' μ' → L2.wipe σ' vs = L2.wipe σ vs → Ψ ε' μ' → Q σ' H') → g us σ H Q
section
variable {E : En} {ε ε' : Ep} {μ : Mu} {g : TG} {gs : TGs} {vs : List Nat} {i : Nat} {w : W} {ws : List W} {Ψ : Ep → Mu → Prop}
theorem rgw_name (hi : i ∈ vs) (he : ε.set i (some w) = ε') (h : Ψ ε' μ) : RGW E vs (gName i) w ε μ Ψ := fun σ G H C v r Q q => q _ ε' G H μ ⟨C.hold, he ▸ C.slots.set i r⟩ (.refl μ G H) (wipe_b hi) h
theorem rgws_nil (h : Ψ ε μ) : RGWs E vs gNil [] ε μ Ψ := fun σ G H C us rs Q q => by
  cases rs
  exact ⟨rfl, q σ ε G H μ C (.refl μ G H) rfl h⟩
theorem rgws_cons (h : RGW E vs g w ε μ fun ε' μ' => RGWs E vs gs ws ε' μ' Ψ) : RGWs E vs (gCons g gs) (w :: ws) ε μ Ψ := fun σ G H C us rs Q q => by
  cases rs with
  | @cons v _ vr _ r t =>
    exact ⟨v, vr, rfl, h σ G H C v r _ fun σ1 ε1 G1 H1 μ1 S1 s1 w1 h1 => h1 σ1 G1 H1 S1 vr (WrA.up t s1.gg) Q fun σ2 ε2 G2 H2 μ2 S2 s2 w2 q2 => q σ2 ε2 G2 H2 μ2 S2 (s1.trans s2) (w2.trans w1) q2⟩
theorem rgw_tup {ds : List D} {n : Nat} (hn : ds.length = n) (h : RGWs E vs gs (ds.map .dat) ε μ Ψ) : RGW E vs (gTup E.K n gs) (.dat (.tup ds)) ε μ Ψ := fun σ G H C v r Q q => by
  cases r with
  | tup hs ha => exact ⟨_, _, rfl, Evl.ex_t C.hold.gh hs, by rw [ha.length, hn], h σ G H C _ ha.ws Q q⟩
end
section
variable {E : En} {ε : Ep} {μ : Mu} {te : TE} {tt : TT} {wi : TI} {g : TG} {vs : List Nat} {Ψ : W → Mu → Prop}
theorem re_lc (hi : RI E wi ε μ fun ds μ1 => ∃ P : Nat → List W → Mu → Prop, P 0 [] μ1 ∧
    (∀ (i : Nat) d acc μ2, ds[i]? = some d → acc.length ≤ i → P i acc μ2 → RGW E.mute vs g (.dat d) (wipeE ε vs) μ2 fun ε2 μ3 => RT E.mute tt ε2 μ3 fun b μ4 =>
      (b = true → RE E.mute te ε2 μ4 fun w μ5 => acc.length < sizeLine ∧ P (i + 1) (acc ++ [w]) μ5) ∧ (b = false → P (i + 1) acc μ4)) ∧
    ∀ acc μ2, acc.length ≤ ds.length → P ds.length acc μ2 → DL acc μ2 Ψ) : RE E (tLc wi g tt te vs) ε μ Ψ := fun σ G H C X Q k =>
  hi σ G H C X _ fun J ds Gi Y G1 H1 μ1 S1 s1 w hg hy ⟨P, h0, hs, hd⟩ => by
    intro D hD
    have xm : ∀ {μ : Mu} {G H : Hp}, XOk E.mute μ G H := fun {μ G H} _ _ _ _ _ _ _ _ _ _ _ z => z.elim
    refine lc_it w (fun i H' => ∃ G' μ' acc, Hold E.K G' H' ((D, .lst acc) :: μ') ∧ Since μ1 G1 H1 G' H' ((D, .lst acc) :: μ') ∧ acc.length ≤ i ∧ P i acc μ') ?_ ?_ ?_ ?_
    · exact ⟨G1, μ1, [], S1.newO (c := .lst []) hD (show WrA _ _ [] [] from .nil), .newO S1 hD, Nat.le_refl _, h0⟩
    · rintro i H' _ ⟨G', μ', acc, S', s', _, _⟩
      exact hg H' (s'.gg.trans S'.gh)
    · rintro i x H' H2 hi ⟨G', μ', acc, S', s', hl, p⟩ y
      obtain ⟨G2, d, S2, s2, hd1, rd⟩ := hy i H' x H2 G' _ S' s'.gg hi y
      have sl : Slots E.K G2 (L2.wipe σ vs) (wipeE ε vs) := (C.slots.wipe vs).up ((s1.gg.trans s'.gg).trans s2.gg)
      refine hs i d acc μ' hd1 hl p (L2.wipe σ vs) G2 H2 ⟨S2.tail 1, sl⟩ x (show Wr E.K G2 x (.dat d) from rd) _ fun σ3 ε3 G3 H3 μ3 S3 s3 w3 q3 => ?_
      refine ⟨w3.trans (wipe_c vs fun i hi => hi), ?_⟩
      have F3 : Hold E.K G3 H3 ((D, .lst acc) :: μ3) := S2.frame 1 S3.hold s3
      have f3 : Since _ G2 H2 G3 H3 ((D, .lst acc) :: μ3) := Since.frame (K := E.K) (μ := (D, .lst acc) :: μ') 1 s3
      refine q3 σ3 G3 H3 S3 xm _ fun b G4 H4 μ4 S4 s4 q4 => ?_
      have F4 : Hold E.K G4 H4 ((D, .lst acc) :: μ4) := F3.frame 1 S4 s4
      have f4 : Since ((D, .lst acc) :: μ3) G3 H3 G4 H4 ((D, .lst acc) :: μ4) := Since.frame (K := E.K) (μ := (D, .lst acc) :: μ3) 1 s4
      have t4 := ((s'.trans s2).trans f3).trans f4
      cases b with
      | false => exact ⟨G4, μ4, acc, F4, t4, by omega, q4.2 rfl⟩
      | true =>
        refine q4.1 rfl σ3 G4 H4 (S3.to S4 s4) xm _ fun v w5 G5 H5 μ5 S5 s5 r5 ⟨hz, p5⟩ => ?_
        have F5 : Hold E.K G5 H5 ((D, .lst acc) :: μ5) := F4.frame 1 S5 s5
        have f5 : Since ((D, .lst acc) :: μ4) G4 H4 G5 H5 ((D, .lst acc) :: μ5) := Since.frame (K := E.K) (μ := (D, .lst acc) :: μ4) 1 s5
        obtain ⟨_, xs, hx, rx⟩ := F5.lst (k := 0) rfl
        refine ⟨xs, hx, by rw [Paired.length rx]; exact hz, G5, μ5, acc ++ [w5], ?_, ?_, by rw [List.length_append, List.length_singleton]; omega, p5⟩
        · exact F5.write (k := 0) (o := .lst (xs ++ [v])) (c' := .lst (acc ++ [w5])) rfl (show WrA _ _ _ _ from WrA.snoc r5 rx)
        · exact (t4.trans f5).trans (Since.write (k := 0) (c' := .lst (acc ++ [w5])) F5 rfl)
    · rintro H' ⟨G', μ', acc, S', s', hl, p⟩
      have t := s1.trans s'
      rcases hd acc μ' hl p with ⟨es, hu, hz, q⟩ | ⟨hz, q⟩
      · have e := undat_ws hu
        subst e
        obtain ⟨hg', xs, hx, rx⟩ := S'.lst (k := 0) rfl
        have n0 : H D = none := by
          cases z : H D with
          | none => rfl
          | some o => exact absurd hD (s1.there D (by rw [z]; simp))
        have S2 : Hold E.K (upd G' D (.lst xs)) H' μ' := S'.frz (k := 0) rfl hx
        refine k _ (.dat (.lst es)) _ _ μ' S2 ⟨t.gg.trans (ex_new hg'), t.keep, t.there, fun a ha hm => ?_, fun q hq => t.own q (List.mem_cons_of_mem _ hq)⟩ (Dr.lst (SqL.of upd_same) ((WrA.dats rx).up (ex_new hg'))) q
        rw [upd_ne (fun z => ha (by rw [z]; exact n0))]
        exact t.new a ha hm
      · exact k _ (.at D) _ _ _ S' t rfl (q D)
theorem takes_no {X : Cx} : Takes X (fun _ _ _ _ => False) := fun u s' z => by
  obtain ⟨_, _, _, _, _, _, _, _, _, _, _, _, _, _, _, _, w⟩ := z
  exact w.elim
end
/-! ### the readings found in the block's surroundings -/
section
variable {X : Cx} {elt tg iter : Expr} {ifs : List Expr} {scope : Scope} {own : List (Str × Nat)} {pos : Pos} {wi : TI} {g : TG} {tt : TT} {te : TE}
  {g' : Shared → Hp → Addr → List (Str × Addr) → List Addr → TG} {tt' : Shared → Hp → Addr → List (Str × Addr) → List Addr → TT} {te' : Shared → Hp → Addr → List (Str × Addr) → List Addr → TE}
theorem pe_lcD (hc : X.calm = true) (hN : X.N.Nodup) (hi : PI X tg iter wi) (ok : BlkOk X.N X.env.scope scope own)
    (hg : ∀ s H C cl fp, PG (X.blk s H scope (compEnvC scope cl C X.env) fp) tg (g' s H C cl fp)) (ht : ∀ s H C cl fp, PTs (X.blk s H scope (compEnvC scope cl C X.env) fp) ifs (tt' s H C cl fp))
    (he : ∀ s H C cl fp, PE (X.blk s H scope (compEnvC scope cl C X.env) fp) elt (te' s H C cl fp)) (hs : ∀ x, foldedSetIterable iter X.env x = pure x)
    (e1 : ∀ s H C cl fp, g' s H C cl fp = g) (e2 : ∀ s H C cl fp, tt' s H C cl fp = tt) (e3 : ∀ s H C cl fp, te' s H C cl fp = te) : PE X (.ListComp elt [⟨tg, iter, ifs, 0⟩] scope pos) (tLc wi g tt te (own.map (·.2))) :=
  pe_lc hc hN hi ok (fun s H C cl fp => by rw [← e1 s H C cl fp]; exact hg s H C cl fp) (fun s H C cl fp => by rw [← e2 s H C cl fp]; exact ht s H C cl fp) (fun s H C cl fp => by rw [← e3 s H C cl fp]; exact he s H C cl fp) hs
theorem ps_setLcD {i : Nat} {y : Str} {py spos : Pos} (hc : X.calm = true) (hN : X.N.Nodup) (hy : X.N[i]? = some y) (hyl : X.env.scope.names.lookup y = some .local)
    (hsw : swapsWith (.ListComp elt [⟨tg, iter, ifs, 0⟩] scope pos) (some (.Name y py)) spos.line X.env = pure true) (hi : PI X tg iter wi) (ok : BlkOk X.N X.env.scope scope own)
    (hg : ∀ s H C cl fp, PG (X.blk s H scope (compEnvC scope cl C X.env) fp) tg (g' s H C cl fp)) (ht : ∀ s H C cl fp, PTs (X.blk s H scope (compEnvC scope cl C X.env) fp) ifs (tt' s H C cl fp))
    (he : ∀ s H C cl fp, PE (X.blk s H scope (compEnvC scope cl C X.env) fp) elt (te' s H C cl fp)) (hs : ∀ x, foldedSetIterable iter X.env x = pure x)
    (e1 : ∀ s H C cl fp, g' s H C cl fp = g) (e2 : ∀ s H C cl fp, tt' s H C cl fp = tt) (e3 : ∀ s H C cl fp, te' s H C cl fp = te) :
    PS X (.Assign [.Name y py] (.ListComp elt [⟨tg, iter, ifs, 0⟩] scope pos) spos) (tAsg (tLc wi g tt te (own.map (·.2))) (gName i)) :=
  ps_setLc hc hN hy hyl hsw hi ok (fun s H C cl fp => by rw [← e1 s H C cl fp]; exact hg s H C cl fp) (fun s H C cl fp => by rw [← e2 s H C cl fp]; exact ht s H C cl fp) (fun s H C cl fp => by rw [← e3 s H C cl fp]; exact he s H C cl fp) hs
end
end Sn

/-! Sn: simple comprehensions, slices, joined tuples, repeated lists, sums. -/
namespace Sn
open PySem PySem.Spec PyProof.Rows L2 RZ
theorem undat_map : ∀ ds : List D, undat (ds.map .dat) = some ds
  | [] => rfl
  | d :: ds => by rw [List.map_cons, undat, undat_map ds]; rfl
theorem filter_take_snoc {α : Type} {xs : List α} {i : Nat} {x : α} (p : α → Bool) (h : xs[i]? = some x) : (xs.take (i + 1)).filter p = (xs.take i).filter p ++ (if p x then [x] else []) := by
  rw [take_snoc h, List.filter_append]
  cases e : p x <;> simp [e]
section
variable {E : En} {ε : Ep} {μ : Mu} {te : TE} {tt : TT} {wi : TI} {g : TG} {vs : List Nat} {Ψ : W → Mu → Prop}
theorem vt_yes : VT E tYes ε μ true := fun _ _ _ _ _ q => q
/-- [f d for d in .. if p d], all of it plain, frozen -/
theorem re_lcV (f : D → D) (p : D → Bool) (hi : RI E wi ε μ fun ds μ1 => ds.length ≤ sizeLine ∧ (∀ d ∈ ds, RGW E.mute vs g (.dat d) (wipeE ε vs) μ1 fun ε2 μ3 => μ3 = μ1 ∧ VT E.mute tt ε2 μ1 (p d) ∧ (p d = true → VE E.mute te ε2 μ1 (.dat (f d)))) ∧ Ψ (.dat (.lst ((ds.filter p).map f))) μ1) : RE E (tLc wi g tt te vs) ε μ Ψ := by
  refine re_lc fun σ G H C X R k => hi σ G H C X R fun J ds Gi Y G1 H1 μ1 S1 s1 w hg hy ⟨hz, hs, q⟩ => k J ds Gi Y G1 H1 μ1 S1 s1 w hg hy ?_
  refine ⟨fun i acc μ' => μ' = μ1 ∧ acc = (((ds.take i).filter p).map f).map .dat, ⟨rfl, rfl⟩, ?_, ?_⟩
  · rintro i d acc _ hd hl ⟨rfl, rfl⟩
    have hil := (List.getElem?_eq_some_iff.mp hd).1
    have h1 := hs d (List.mem_of_getElem? hd)
    refine fun σ G H C v r Q kq => h1 σ G H C v r Q fun σ' ε' G' H' μ' S' s' w' ⟨e, ht, he⟩ => ?_
    subst e
    refine kq σ' ε' G' H' _ S' s' w' (rt_v ht ⟨fun hb => re_v (he hb) ⟨by omega, rfl, ?_⟩, fun hb => ⟨rfl, ?_⟩⟩)
    · rw [filter_take_snoc p hd, if_pos hb, List.map_append, List.map_append]
      rfl
    · rw [filter_take_snoc p hd, if_neg (by rw [hb]; exact Bool.false_ne_true), List.append_nil]
  · rintro acc _ hl ⟨rfl, rfl⟩
    rw [List.take_length]
    refine dl_f (undat_map _) ?_ q
    rw [List.length_map]
    exact Nat.le_trans (List.length_filter_le _ _) hz
theorem re_lcM (f : D → D) (hi : RI E wi ε μ fun ds μ1 => ds.length ≤ sizeLine ∧ (∀ d ∈ ds, RGW E.mute vs g (.dat d) (wipeE ε vs) μ1 fun ε2 μ3 => μ3 = μ1 ∧ VE E.mute te ε2 μ1 (.dat (f d))) ∧ Ψ (.dat (.lst (ds.map f))) μ1) : RE E (tLc wi g tYes te vs) ε μ Ψ := by
  refine re_lcV f (fun _ => true) fun σ G H C X R k => hi σ G H C X R fun J ds Gi Y G1 H1 μ1 S1 s1 w hg hy ⟨hz, hs, q⟩ => k J ds Gi Y G1 H1 μ1 S1 s1 w hg hy ⟨hz, fun d hd => ?_, ?_⟩
  · exact fun σ G H C v r Q kq => hs d hd σ G H C v r Q fun σ' ε' G' H' μ' S' s' w' ⟨e, he⟩ => kq σ' ε' G' H' μ' S' s' w' ⟨e, vt_yes, fun _ => he⟩
  · rw [List.filter_eq_self.mpr fun _ _ => rfl]; exact q
/-- .. the list owned -/
theorem re_lcMO (f : D → D) (hi : RI E wi ε μ fun ds μ1 => ds.length ≤ sizeLine ∧ (∀ d ∈ ds, RGW E.mute vs g (.dat d) (wipeE ε vs) μ1 fun ε2 μ3 => μ3 = μ1 ∧ VE E.mute te ε2 μ1 (.dat (f d))) ∧ ∀ l, Ψ (.at l) ((l, .lst ((ds.map f).map .dat)) :: μ1)) : RE E (tLc wi g tYes te vs) ε μ Ψ := by
  refine re_lc fun σ G H C X R k => hi σ G H C X R fun J ds Gi Y G1 H1 μ1 S1 s1 w hg hy ⟨hz, hs, q⟩ => k J ds Gi Y G1 H1 μ1 S1 s1 w hg hy ?_
  refine ⟨fun i acc μ' => μ' = μ1 ∧ acc = ((ds.take i).map f).map .dat, ⟨rfl, rfl⟩, ?_, ?_⟩
  · rintro i d acc _ hd hl ⟨rfl, rfl⟩
    have hil := (List.getElem?_eq_some_iff.mp hd).1
    refine fun σ G H C v r Q kq => hs d (List.mem_of_getElem? hd) σ G H C v r Q fun σ' ε' G' H' μ' S' s' w' ⟨e, he⟩ => ?_
    subst e
    refine kq σ' ε' G' H' _ S' s' w' (rt_v vt_yes ⟨fun hb => re_v he ⟨by omega, rfl, ?_⟩, fun hb => by cases hb⟩)
    rw [take_snoc hd, List.map_append, List.map_append]
    rfl
  · rintro acc _ hl ⟨rfl, rfl⟩
    rw [List.take_length]
    exact dl_o (by rw [List.length_map, List.length_map]; exact hz) q
end
/-! ### slices -/
section
variable {E : En} {ε : Ep} {μ : Mu} {Ψ : W → Mu → Prop} {ds es : List D} {i j : Int}
def cutD (ds : List D) (lo hi : Option Int) : List D := (ds.drop (HT.sIx ds.length 0 lo)).take (HT.sIx ds.length ds.length hi - HT.sIx ds.length 0 lo)
theorem DrA.drop {K : PySem.W.Frag} {G : Hp} : ∀ (n : Nat) {vs : List V} {ds : List D}, DrA K G vs ds → DrA K G (vs.drop n) (ds.drop n)
  | 0, _, _, h => h
  | n + 1, _, _, .nil => by simp; exact .nil
  | n + 1, _, _, .cons _ t => DrA.drop n t
theorem DrA.take {K : PySem.W.Frag} {G : Hp} : ∀ (n : Nat) {vs : List V} {ds : List D}, DrA K G vs ds → DrA K G (vs.take n) (ds.take n)
  | 0, _, _, _ => by simp; exact .nil
  | n + 1, _, _, .nil => by simp; exact .nil
  | n + 1, _, _, .cons r t => .cons r (DrA.take n t)
theorem DrA.cut {K : PySem.W.Frag} {G : Hp} {vs : List V} (h : DrA K G vs ds) (lo hi : Option Int) : DrA K G (cutV vs lo hi) (cutD ds lo hi) := by
  unfold cutV cutD
  rw [h.length]
  exact (h.drop _).take _
/-- a slice as a judgement: what is cut, from where to where -/
def RSl (E : En) (r : V → Option Int → Option Int → Hp → VK → Prop) (w : W) (lo hi : Option Int) (μ : Mu) (Ψ : W → Mu → Prop) : Prop := ∀ G H, Hold E.K G H μ → ∀ v, Wr E.K G v w → ∀ Q : VK, (∀ v w G' H' μ', Hold E.K G' H' μ' → Since μ G H G' H' μ' → Wr E.K G' v w → Ψ w μ' → Q v H') → r v lo hi H Q
def VOp (E : En) (to : TO) (ε : Ep) (μ : Mu) (o : Option Int) : Prop := ∀ σ G H, St E.K σ ε G H μ → ∀ Q : Option Int → Hp → Prop, Q o H → to σ H Q
theorem re_sl {r : V → Option Int → Option Int → Hp → VK → Prop} {te : TE} {tl th : TO} {lo hi : Option Int} (h : RE E te ε μ fun w μ1 => VOp E tl ε μ1 lo ∧ VOp E th ε μ1 hi ∧ RSl E r w lo hi μ1 Ψ) : RE E (tSl r te tl th) ε μ Ψ := fun σ G H C X Q k =>
  h σ G H C X _ fun v w G1 H1 μ1 S1 s1 r1 ⟨h1, h2, h3⟩ => h1 σ G1 H1 (C.to S1 s1) _ (h2 σ G1 H1 (C.to S1 s1) _ (h3 G1 H1 S1 v r1 Q fun v' w' G' H' μ' S' s' r' q => k v' w' G' H' μ' S' (s1.trans s') r' q))
theorem rsl_tup {lo hi : Option Int} (q : Ψ (.dat (.tup (cutD ds lo hi))) μ) : RSl E (rSlA E.K) (.dat (.tup ds)) lo hi μ Ψ := fun G H S v r Q k => by
  cases r with
  | @tup a xs _ hs ha =>
    have hc := ha.cut lo hi
    refine ⟨a, xs, rfl, Evl.ex_t S.gh hs, fun hw => ?_, fun _ p hp => ?_⟩
    · have e : cutV xs lo hi = xs := by
        unfold cutV
        rw [hw.1, hw.2]
        simp
      rw [e] at hc
      exact k _ (.dat (.tup (cutD ds lo hi))) G H μ S (.refl μ G H) (Dr.tup hs hc) q
    · have hg := S.gnone hp
      exact k _ (.dat (.tup (cutD ds lo hi))) _ _ μ (S.newF hp) (.newF S hp) (Dr.tup (SqT.of upd_same) (hc.up (ex_new hg))) q
theorem rsl_lst {lo hi : Option Int} (q : Ψ (.dat (.lst (cutD ds lo hi))) μ) : RSl E (rSlL E.K) (.dat (.lst ds)) lo hi μ Ψ := fun G H S v r Q k => by
  cases r with
  | @lst a xs _ hs ha =>
    refine ⟨a, xs, rfl, Evl.ex_l S.gh hs, fun p hp => ?_⟩
    have hg := S.gnone hp
    exact k _ (.dat (.lst (cutD ds lo hi))) _ _ μ (S.newF hp) (.newF S hp) (Dr.lst (SqL.of upd_same) ((ha.cut lo hi).up (ex_new hg))) q
/-! ### t + u -/
theorem ro_catT (hz : ds.length + es.length ≤ sizeLine) (q : Ψ (.dat (.tup (ds ++ es))) μ) : RO E (rCatA E.K) (.dat (.tup ds)) (.dat (.tup es)) μ Ψ := fun G H S v1 v2 r1 r2 Q k => by
  cases r1 with
  | @tup a xs _ hs ha =>
    cases r2 with
    | @tup b ys _ hs2 ha2 =>
      have hd : DrA E.K G (xs ++ ys) (ds ++ es) := DrA.app ha2 ha
      refine ⟨a, b, xs, ys, rfl, rfl, Evl.ex_t S.gh hs, Evl.ex_t S.gh hs2, by rw [ha.length, ha2.length]; exact hz, fun e => ?_, fun _ e => ?_, fun _ _ p hp => ?_⟩
      · subst e
        exact k _ (.dat (.tup (ds ++ es))) G H μ S (.refl μ G H) (Dr.tup hs2 hd) q
      · subst e
        rw [List.append_nil] at hd
        exact k _ (.dat (.tup (ds ++ es))) G H μ S (.refl μ G H) (Dr.tup hs hd) q
      · have hg := S.gnone hp
        exact k _ (.dat (.tup (ds ++ es))) _ _ μ (S.newF hp) (.newF S hp) (Dr.tup (SqT.of upd_same) (hd.up (ex_new hg))) q
/-- [d] * n: a new owned list; the list of one goes with it -/
theorem ro_rep1 {l : Addr} {k : Nat} {w : W} (hk : μ[k]? = some (l, .lst [w])) (h1 : j < 2 ^ 62) (h2 : -(2 ^ 62) ≤ j) (hz : j.toNat ≤ sizeLine) (q : ∀ p, Ψ (.at p) ((p, .lst (List.replicate j.toNat w)) :: μ)) : RO E rRep (.at l) (.i j) μ Ψ := fun G H S v1 v2 r1 r2 Q kq => by
  cases r1; cases r2
  obtain ⟨_, xs, hx, rx⟩ := S.lst hk
  cases rx with
  | @cons x _ _ _ r t =>
    cases t
    refine ⟨l, j, [x], rfl, rfl, hx, by omega, by omega, by simpa using hz, fun p hp => ?_⟩
    have e : (List.replicate j.toNat [x]).flatten = List.replicate j.toNat x := by
      induction j.toNat with
      | zero => rfl
      | succ n ih => rw [List.replicate_succ, List.flatten_cons, ih]; rfl
    rw [e]
    have hr : ∀ n : Nat, WrA E.K G (List.replicate n x) (List.replicate n w) := fun n => by
      induction n with
      | zero => exact .nil
      | succ n ih => exact .cons r ih
    exact kq _ (.at p) _ _ _ (S.newO (c := .lst (List.replicate j.toNat w)) hp (show WrA _ _ _ _ from hr _)) (.newO S hp) rfl (q p)
/-- tuple(l), l owned -/
theorem rc_tupA {l : Addr} {k : Nat} (hm : μ[k]? = some (l, .lst (ds.map .dat))) (q : Ψ (.dat (.tup ds)) μ) : RC E (rTupleOf E.K) [.at l] μ Ψ := fun G H S vs rs Q kq => by
  cases rs with
  | cons r t =>
    cases t
    cases r
    obtain ⟨_, xs, hx, rx⟩ := S.lst hm
    refine ⟨l, xs, rfl, .inl ⟨SqL.of hx, fun p hp => ?_⟩⟩
    have hg := S.gnone hp
    exact kq _ (.dat (.tup ds)) _ _ μ (S.newF hp) (.newF S hp) (Dr.tup (SqT.of upd_same) ((WrA.dats rx).up (ex_new hg))) q
theorem rc_tupT (q : Ψ (.dat (.tup ds)) μ) : RC E (rTupleOf E.K) [.dat (.tup ds)] μ Ψ := fun G H S vs rs Q k => by
  cases rs with
  | cons r t =>
    cases t
    cases r with
    | @tup a xs _ h1 h2 => exact ⟨a, xs, rfl, .inr ⟨Evl.ex_t S.gh h1, k _ (.dat (.tup ds)) G H μ S (.refl μ G H) (Dr.tup h1 h2) q⟩⟩
end
theorem atI_zero {α : Type} {x : α} {xs : List α} : atI (x :: xs) 0 = some x := Sn.atI_int (by decide) rfl
end Sn

/-! Sn: rows of coefficients, in plain Lean. -/
namespace Sn
open PySem L2
/-- the greatest common divisor of a row -/
def gcds (cs : List Int) : Nat := cs.foldl (fun g c => Int.gcd (g : Int) c) 0
theorem gcds_snoc (cs : List Int) (c : Int) : gcds (cs ++ [c]) = Int.gcd (gcds cs : Nat) c := by
  unfold gcds
  rw [List.foldl_append]
  rfl
theorem foldl_dvd : ∀ (cs : List Int) (g : Nat), cs.foldl (fun g c => Int.gcd (g : Int) c) g ∣ g
  | [], g => Nat.dvd_refl g
  | c :: cs, g => by
    rw [List.foldl_cons]
    exact Nat.dvd_trans (foldl_dvd cs _) (Int.natAbs_dvd_natAbs.mpr (Int.gcd_dvd_left (a := (g : Int)) (b := c)))
theorem gcds_dvd (as bs : List Int) : gcds (as ++ bs) ∣ gcds as := by
  unfold gcds
  rw [List.foldl_append]
  exact foldl_dvd bs _
theorem foldl_mem {c : Int} : ∀ (cs : List Int) (g : Nat), c ∈ cs → ((cs.foldl (fun g c => Int.gcd (g : Int) c) g : Nat) : Int) ∣ c
  | d :: cs, g, h => by
    rw [List.foldl_cons]
    rcases List.mem_cons.mp h with rfl | h
    · exact Int.dvd_trans (Int.natCast_dvd_natCast.mpr (foldl_dvd cs _)) (Int.gcd_dvd_right (a := (g : Int)) (b := c))
    · exact foldl_mem cs _ h
theorem gcds_mem {cs : List Int} {c : Int} (h : c ∈ cs) : ((gcds cs : Nat) : Int) ∣ c := foldl_mem cs 0 h
theorem foldl_zero : ∀ (cs : List Int), (∀ c ∈ cs, c = 0) → cs.foldl (fun g c => Int.gcd (g : Int) c) 0 = 0
  | [], _ => rfl
  | c :: cs, h => by
    rw [List.foldl_cons, h c List.mem_cons_self]
    exact foldl_zero cs fun c hc => h c (List.mem_cons_of_mem _ hc)
theorem gcds_zero {cs : List Int} : gcds cs = 0 ↔ ∀ c ∈ cs, c = 0 := by
  constructor
  · intro h c hc
    have := gcds_mem hc
    rw [h] at this
    exact Int.zero_dvd.mp this
  · exact foldl_zero cs
/-- the first coefficient that is not 0 -/
def lead (cs : List Int) : Int := (cs.filter fun c => !decide (c = 0)).headD 0
def nsg (cs : List Int) : Int := if lead cs > 0 then (gcds cs : Nat) else -((gcds cs : Nat) : Int)
/-- the normal form of a row -/
def nrm (cs : List Int) : List Int := if gcds cs = 0 then cs else cs.map (·.fdiv (nsg cs))
theorem lead_at {cs : List Int} (h : gcds cs ≠ 0) : ∃ r, (cs.filter fun c => !decide (c = 0)) = lead cs :: r ∧ lead cs ≠ 0 ∧ lead cs ∈ cs := by
  unfold lead
  cases e : cs.filter fun c => !decide (c = 0) with
  | nil =>
    refine absurd (gcds_zero.mpr fun c hc => ?_) h
    have := List.filter_eq_nil_iff.mp e c hc
    simpa using this
  | cons x r =>
    have hm : x ∈ cs.filter fun c => !decide (c = 0) := by rw [e]; exact List.mem_cons_self
    rw [List.mem_filter] at hm
    exact ⟨r, rfl, by simpa using hm.2, hm.1⟩
theorem gcds_bd {n : Nat} {cs : List Int} (h : ∀ c ∈ cs, Bd n c) (h0 : gcds cs ≠ 0) : Bd n (gcds cs : Nat) := by
  obtain ⟨r, _, h1, h2⟩ := lead_at h0
  refine (h _ h2).le ?_
  have := Int.natAbs_dvd_natAbs.mpr (gcds_mem h2)
  exact Nat.le_of_dvd (by omega) this
theorem at_int {cs : List Int} {i : Nat} {d : D} (h : (cs.map D.int)[i]? = some d) : ∃ c, cs[i]? = some c ∧ d = .int c := by
  rw [List.getElem?_map] at h
  cases e : cs[i]? with
  | none => rw [e] at h; cases h
  | some c => rw [e] at h; cases h; exact ⟨c, rfl, rfl⟩
theorem len_lt {n : Nat} (h : n < 1000000) : n < sizeLine := Nat.lt_of_lt_of_le h (by decide)
theorem len_ok {n : Nat} (h : n ≤ 1000000) : n ≤ sizeLine := Nat.le_trans h (by decide)
/-! ### products of rows -/
/-- the k-th coefficient of the product, the first i rows of it -/
def cf (a b : List Int) : Nat → Nat → Int
  | 0, _ => 0
  | i + 1, k => cf a b i k + if i ≤ k then a.getD i 0 * b.getD (k - i) 0 else 0
def mulL (a b : List Int) : List Int := (List.range (a.length + b.length - 1)).map (cf a b a.length)
/-- an owned row given by a function -/
def rwl (N : Nat) (F : Nat → Int) : List W := (List.range N).map fun k => W.i (F k)
theorem rwl_length (N : Nat) (F : Nat → Int) : (rwl N F).length = N := by simp [rwl]
theorem rwl_at {N k : Nat} {F : Nat → Int} (h : k < N) : (rwl N F)[k]? = some (.i (F k)) := by simp [rwl, h]
theorem rwl_set {N k : Nat} {F : Nat → Int} {v : Int} : (rwl N F).set k (.i v) = rwl N fun x => if x = k then v else F x := by
  apply List.ext_getElem?
  intro x
  rw [List.getElem?_set, rwl_length]
  by_cases hx : x < N
  · rw [rwl_at hx, rwl_at hx]
    by_cases e : k = x
    · subst e; simp [hx]
    · rw [if_neg e, if_neg (Ne.symm e)]
  · have h1 : (rwl N F)[x]? = none := List.getElem?_eq_none (by rw [rwl_length]; omega)
    have h2 : ∀ F', (rwl N F')[x]? = none := fun F' => List.getElem?_eq_none (by rw [rwl_length]; omega)
    rw [h1, h2]
    split
    · rename_i e; subst e; rw [if_neg hx]
    · rfl
theorem rwl_congr {N : Nat} {F F' : Nat → Int} (h : ∀ k, k < N → F k = F' k) : rwl N F = rwl N F' := by
  unfold rwl
  exact List.map_congr_left fun k hk => by rw [h k (List.mem_range.mp hk)]
theorem rwl_dat (N : Nat) (F : Nat → Int) : rwl N F = (((List.range N).map F).map .int).map .dat := by
  unfold rwl
  rw [List.map_map, List.map_map]
  rfl
theorem getD_of {xs : List Int} {i : Nat} {x : Int} (h : xs[i]? = some x) : xs.getD i 0 = x := by
  rw [List.getD_eq_getElem?_getD, h]
  rfl
theorem enm_get {xs : List Int} {i : Nat} {d : D} (h : (enm (xs.map .int))[i]? = some d) : ∃ x, xs[i]? = some x ∧ d = .tup [.int (i : Int), .int x] := by
  have hl : i < xs.length := by
    have := (List.getElem?_eq_some_iff.mp h).1
    rwa [enm_length, List.length_map] at this
  have h1 : (xs.map D.int)[i]? = some (.int xs[i]) := by rw [List.getElem?_map, List.getElem?_eq_getElem hl]; rfl
  rw [enm_at h1] at h
  cases h
  exact ⟨xs[i], List.getElem?_eq_getElem hl, rfl⟩
/-- the first n owned objects are needed no more behind this -/
theorem re_fgt {E : En} {te : TE} {ε : Ep} {μ : Mu} {Ψ : W → Mu → Prop} (n : Nat) (h : RE E te ε μ fun w μ' => Ψ w (μ'.drop n)) : RE E te ε μ Ψ := fun σ G H C X Q k => h σ G H C X Q fun v w G' H' μ' S s r q =>
  k v w G' H' (μ'.drop n) (S.tail n) ⟨s.gg, s.keep, s.there, s.new, fun p hp => s.own p (List.mem_of_mem_drop hp)⟩ r q
/-- a row at (x, y), and the power of y behind it -/
def evP (x y : Int) (cs : List Int) : Int × Int := cs.foldl (fun s c => (s.1 * x + c * s.2, s.2 * y)) (0, 1)
def evL (cs : List Int) (x y : Int) : Int := (evP x y cs).1
theorem evP_snoc (x y : Int) (cs : List Int) (c : Int) : evP x y (cs ++ [c]) = ((evP x y cs).1 * x + c * (evP x y cs).2, (evP x y cs).2 * y) := by
  unfold evP
  rw [List.foldl_append]
  rfl
theorem evP_bd {n m : Nat} {x y : Int} (hx : Bd m x) (hy : Bd m y) {cs : List Int} (hc : ∀ c ∈ cs, Bd n c) : ∀ i, i ≤ cs.length → Bd (n + m * i + i + 1) (evP x y (cs.take i)).1 ∧ Bd (m * i + 1) (evP x y (cs.take i)).2
  | 0, _ => by
    rw [List.take_zero]
    refine ⟨⟨?_⟩, ⟨by show (1 : Nat) < 2 ^ (m * 0 + 1); rw [Nat.mul_zero]; decide⟩⟩
    show (0 : Nat) < _
    exact Nat.pow_pos (by decide)
  | i + 1, hi => by
    obtain ⟨h1, h2⟩ := evP_bd hx hy hc i (by omega)
    have hg : cs[i]? = some cs[i] := List.getElem?_eq_getElem (by omega)
    rw [take_snoc hg, evP_snoc]
    have h3 := hc cs[i] (List.getElem_mem _)
    have e : m * (i + 1) = m * i + m := Nat.mul_succ m i
    refine ⟨?_, (h2.mul hy).up (by omega)⟩
    exact (((h1.mul hx).up (m := n + m * i + i + 1 + m) (by omega)).add1 ((h3.mul h2).up (by omega))).up (by omega)
theorem mulL_length (a b : List Int) : (mulL a b).length = a.length + b.length - 1 := by simp [mulL]
theorem getD_bd {n : Nat} {xs : List Int} (h : ∀ x ∈ xs, Bd n x) (k : Nat) : Bd n (xs.getD k 0) := by
  rw [List.getD_eq_getElem?_getD]
  cases e : xs[k]? with
  | none => exact ⟨Nat.pow_pos (by decide)⟩
  | some x => exact h x (List.mem_of_getElem? e)
theorem cf_bd {n m : Nat} {a b : List Int} (ha : ∀ x ∈ a, Bd n x) (hb : ∀ x ∈ b, Bd m x) : ∀ i k, Bd (n + m + i) (cf a b i k)
  | 0, k => ⟨Nat.pow_pos (by decide)⟩
  | i + 1, k => by
    rw [cf]
    refine (cf_bd ha hb i k).add1 ?_
    split
    · exact ((getD_bd ha i).mul (getD_bd hb (k - i))).up (by omega)
    · exact ⟨Nat.pow_pos (by decide)⟩
theorem mulL_bd {n m : Nat} {a b : List Int} (ha : ∀ x ∈ a, Bd n x) (hb : ∀ x ∈ b, Bd m x) : ∀ x ∈ mulL a b, Bd (n + m + a.length) x := fun x hx => by
  unfold mulL at hx
  obtain ⟨k, _, rfl⟩ := List.mem_map.mp hx
  exact cf_bd ha hb _ k
/-- one turn of substituted -/
def subS (top bottom : List Int) (s : List Int × List Int) (c : Int) : List Int × List Int :=
  (List.zipWith (· + ·) (mulL s.1 top) ((mulL s.2 bottom).map (c * ·)), mulL s.2 bottom)
def subP (top bottom form : List Int) (i : Nat) : List Int × List Int := ((form.drop 1).take i).foldl (subS top bottom) ([form.headD 0], [1])
def subL (form top bottom : List Int) : List Int := (subP top bottom form (form.length - 1)).1
theorem subP_succ {top bottom form : List Int} {i : Nat} {c : Int} (h : (form.drop 1)[i]? = some c) : subP top bottom form (i + 1) = subS top bottom (subP top bottom form i) c := by
  unfold subP
  rw [take_snoc h, List.foldl_append]
  rfl
structure SubI (n m k L i : Nat) (s : List Int × List Int) : Prop where
  l1 : s.1.length = 1 + i * k
  l2 : s.2.length = 1 + i * k
  b1 : ∀ x ∈ s.1, Bd (n + 1 + i * (m + L + 1)) x
  b2 : ∀ x ∈ s.2, Bd (1 + i * (m + L)) x
theorem SubI.next {n m k L i : Nat} {s : List Int × List Int} {top bottom : List Int} {c : Int} (h : SubI n m k L i s) (ht : top.length = k + 1) (hb : bottom.length = k + 1) (bt : ∀ x ∈ top, Bd m x) (bb : ∀ x ∈ bottom, Bd m x) (hc : Bd n c) (hL : 1 + i * k ≤ L) : SubI n m k L (i + 1) (subS top bottom s c) := by
  have e1 : (i + 1) * k = i * k + k := Nat.succ_mul i k
  have e2 : (i + 1) * (m + L + 1) = i * (m + L + 1) + (m + L + 1) := Nat.succ_mul ..
  have e3 : (i + 1) * (m + L) = i * (m + L) + (m + L) := Nat.succ_mul ..
  have e4 : i * (m + L) ≤ i * (m + L + 1) := Nat.mul_le_mul_left i (by omega)
  have p2 : ∀ x ∈ mulL s.2 bottom, Bd (1 + (i + 1) * (m + L)) x := fun x hx => (mulL_bd h.b2 bb x hx).up (by rw [h.l2]; omega)
  have q2 : (mulL s.2 bottom).length = 1 + (i + 1) * k := by rw [mulL_length, h.l2, hb]; omega
  refine ⟨?_, q2, fun x hx => ?_, p2⟩
  · show (List.zipWith _ _ _).length = _
    rw [List.length_zipWith, List.length_map, q2, mulL_length, h.l1, ht]
    omega
  · obtain ⟨j, hj⟩ := List.mem_iff_getElem?.mp (show x ∈ List.zipWith (· + ·) (mulL s.1 top) ((mulL s.2 bottom).map (c * ·)) from hx)
    rw [List.getElem?_zipWith] at hj
    cases f1 : (mulL s.1 top)[j]? with
    | none => rw [f1] at hj; cases hj
    | some u =>
      rw [f1, List.getElem?_map] at hj
      cases f2 : (mulL s.2 bottom)[j]? with
      | none => rw [f2] at hj; cases hj
      | some v =>
        rw [f2] at hj
        cases hj
        have hu := (mulL_bd h.b1 bt u (List.mem_of_getElem? f1)).up (m := n + (i + 1) * (m + L + 1)) (by rw [h.l1]; omega)
        have hv := (hc.mul (p2 v (List.mem_of_getElem? f2))).up (m := n + (i + 1) * (m + L + 1)) (by omega)
        exact (hu.add1 hv).up (by omega)
theorem cut_from (ds : List D) (k : Nat) : cutD ds (some (k : Int)) none = ds.drop k := by
  unfold cutD
  rw [HT.sIx_nat, HT.sIx_none]
  rcases Nat.le_total k ds.length with h | h
  · rw [Nat.min_eq_left h, List.take_of_length_le (by rw [List.length_drop]; omega)]
  · rw [Nat.min_eq_right h, List.drop_length, List.drop_eq_nil_of_le h, List.take_nil]
theorem vop_some {E : En} {te : TE} {ε : Ep} {μ : Mu} {i : Int} (h : VE E te ε μ (.i i)) : VOp E (tPart te) ε μ (some i) := fun σ G H C Q q => h σ G H C _ fun v r => by
  cases r
  exact ⟨i, rfl, q⟩
theorem vop_none {E : En} {ε : Ep} {μ : Mu} : VOp E tNoPart ε μ none := fun σ G H C Q q => q
/-! ### sum, max, min of a list of ints -/
theorem DrA.ints {K : PySem.W.Frag} {G : Hp} : ∀ {vs : List V} {ns : List Int}, DrA K G vs (ns.map .int) → vs = ns.map V.int
  | [], [], _ => rfl
  | _ :: _, [], h => nomatch h
  | [], _ :: _, h => nomatch h
  | _ :: _, n :: ns, .cons r t => by
    cases r
    rw [DrA.ints t]
    rfl
section
variable {E : En} {μ : Mu} {ns : List Int} {Ψ : W → Mu → Prop}
theorem vc_sum : VC E (rSum E.K) [.dat (.lst (ns.map .int))] μ (.i ns.sum) := fun G H S vs rs Q q => by
  cases rs with
  | cons r t =>
    cases t
    cases r with
    | lst hs ha =>
      rw [DrA.ints ha] at hs
      exact ⟨_, ns, rfl, Evl.ex_l S.gh hs, q _ (Dr.int _)⟩
theorem rc_max (h0 : 0 < ns.length) (q : ∀ m, m ∈ ns → (∀ y, y ∈ ns → y ≤ m) → Ψ (.i m) μ) : RC E (rMax E.K) [.dat (.lst (ns.map .int))] μ Ψ := fun G H S vs rs Q k => by
  cases rs with
  | cons r t =>
    cases t
    cases r with
    | lst hs ha =>
      rw [DrA.ints ha] at hs
      exact ⟨_, ns, rfl, Evl.ex_l S.gh hs, h0, fun m h1 h2 => k _ (.i m) G H μ S (.refl μ G H) (Dr.int _) (q m h1 h2)⟩
theorem rc_min (h0 : 0 < ns.length) (q : ∀ m, m ∈ ns → (∀ y, y ∈ ns → m ≤ y) → Ψ (.i m) μ) : RC E (rMin E.K) [.dat (.lst (ns.map .int))] μ Ψ := fun G H S vs rs Q k => by
  cases rs with
  | cons r t =>
    cases t
    cases r with
    | lst hs ha =>
      rw [DrA.ints ha] at hs
      exact ⟨_, ns, rfl, Evl.ex_l S.gh hs, h0, fun m h1 h2 => k _ (.i m) G H μ S (.refl μ G H) (Dr.int _) (q m h1 h2)⟩
end
/-- the sum of the absolute values -/
def wide (cs : List Int) : Int := (cs.map fun c => (c.natAbs : Int)).sum
/-- xs[e] = e', the place worked out behind the value -/
theorem rs_setItemG {E : En} {ε : Ep} {μ : Mu} {te ta tb : TE} {Φ : Fi} (h : RE E te ε μ fun w μ1 => ∃ l : Addr, VE E ta ε μ1 (.at l) ∧ RE E tb ε μ1 fun wi μ2 => ∃ (k : Nat) (ws : List W) (i : Int) (j : Nat), wi = .i i ∧ μ2[k]? = some (l, .lst ws) ∧ ixN ws.length i = some j ∧ Φ.nx ε (μ2.set k (l, .lst (ws.set j w)))) : RS E (tAsg te (gSub ta tb rSetL)) ε μ Φ :=
  fun σ G H C X D T => h σ G H C X _ fun v w G1 H1 μ1 S s r ⟨l, va, hb⟩ => by
    have C1 := C.to S s
    refine va σ G1 H1 C1 _ fun v1 r1 => hb σ G1 H1 C1 (X.to s) _ fun v2 w2 G2 H2 μ2 S2 s2 r2 ⟨k, ws, i, j, e, hk, hj, q⟩ => ?_
    subst e
    cases r1; cases r2
    obtain ⟨_, xs, hx, rx⟩ := S2.lst hk
    refine ⟨l, xs, i, j, rfl, rfl, hx, by rw [Paired.length rx]; exact hj, ?_⟩
    have S3 := S2.write (o := .lst (xs.set j v)) (c' := .lst (ws.set j w)) hk (show WrA _ _ _ _ from WrA.set (r.up s2.gg) j rx)
    have s3 : Since μ2 G2 H2 G2 (upd H2 l (.lst (xs.set j v))) (μ2.set k (l, .lst (ws.set j w))) := .write S2 hk
    exact T.nx σ ε G2 _ _ ⟨S3, (C1.to S2 s2).slots⟩ ((s.trans s2).trans s3) q
/-- an owned row of ints -/
def iw (cs : List Int) : List W := (cs.map D.int).map .dat
theorem iw_length (cs : List Int) : (iw cs).length = cs.length := by simp [iw]
theorem iw_set (cs : List Int) (j : Nat) (v : Int) : (iw cs).set j (.i v) = iw (cs.set j v) := by
  unfold iw
  rw [List.map_map, List.map_map, List.map_set]
  rfl
theorem set_bd {P : Int → Prop} {cs : List Int} {j : Nat} {v : Int} (h : ∀ c ∈ cs, P c) (hv : P v) : ∀ c ∈ cs.set j v, P c := fun c hc => by
  rcases List.mem_or_eq_of_mem_set hc with z | z
  · exact h c z
  · rw [z]; exact hv
end Sn

/-! Sn: rows as polynomials, in plain Lean. -/
namespace Sn
open PySem L2
/-- the value at x of the first N of F -/
def val (x : Int) (F : Nat → Int) : Nat → Int
  | 0 => 0
  | N + 1 => val x F N * x + F N
theorem val_congr {x : Int} {F G : Nat → Int} : ∀ {N : Nat}, (∀ k, k < N → F k = G k) → val x F N = val x G N
  | 0, _ => rfl
  | N + 1, h => by rw [val, val, val_congr (N := N) fun k hk => h k (by omega), h N (by omega)]
theorem val_add (x : Int) (F G : Nat → Int) : ∀ N, val x (fun k => F k + G k) N = val x F N + val x G N
  | 0 => rfl
  | N + 1 => by rw [val, val, val, val_add x F G N]; grind
theorem val_mul (x c : Int) (F : Nat → Int) : ∀ N, val x (fun k => c * F k) N = c * val x F N
  | 0 => by simp [val]
  | N + 1 => by rw [val, val, val_mul x c F N]; grind
theorem val_shift (x : Int) (G : Nat → Int) (i : Nat) : ∀ N, val x (fun k => if i ≤ k then G (k - i) else 0) N = val x G (N - i)
  | 0 => by simp [val]
  | N + 1 => by
    rw [val, val_shift x G i N]
    by_cases h : i ≤ N
    · rw [if_pos h, show N + 1 - i = (N - i) + 1 by omega, val]
    · rw [if_neg h, show N + 1 - i = 0 by omega, show N - i = 0 by omega, val]
      simp
theorem val_zero {x : Int} {G : Nat → Int} {n : Nat} (h : ∀ k, n ≤ k → G k = 0) : ∀ t, val x G (n + t) = val x G n * x ^ t
  | 0 => by simp
  | t + 1 => by
    rw [show n + (t + 1) = (n + t) + 1 by omega, val, val_zero h t, h (n + t) (by omega), Int.pow_succ]
    grind
theorem getD_ge {b : List Int} {k : Nat} (h : b.length ≤ k) : b.getD k 0 = 0 := by
  rw [List.getD_eq_getElem?_getD, List.getElem?_eq_none h]; rfl
/-- a row's value at (x, 1) -/
def vl (cs : List Int) (x : Int) : Int := val x (fun k => cs.getD k 0) cs.length
theorem val_cf (x : Int) (a b : List Int) : ∀ i, i ≤ a.length → 1 ≤ b.length → val x (cf a b i) (a.length + b.length - 1) = val x (fun k => a.getD k 0) i * x ^ (a.length - i) * vl b x
  | 0, _, _ => by
    have h : ∀ N, val x (cf a b 0) N = 0 := fun N => by
      induction N with
      | zero => rfl
      | succ N ih => rw [val, ih, cf]; simp
    rw [h, val]
    simp
  | i + 1, h, hb => by
    have e : val x (cf a b (i + 1)) (a.length + b.length - 1) = val x (cf a b i) (a.length + b.length - 1) + a.getD i 0 * val x (fun k => b.getD k 0) (a.length + b.length - 1 - i) := by
      rw [← val_shift x (fun k => b.getD k 0) i, ← val_mul x, ← val_add x]
      exact val_congr fun k _ => by rw [cf]; split <;> simp
    rw [e, val_cf x a b i (by omega) hb, show a.length + b.length - 1 - i = b.length + (a.length - (i + 1)) by omega, val_zero (G := fun k => b.getD k 0) (n := b.length) fun k hk => getD_ge hk, val]
    show _ + _ * (vl b x * _) = _
    rw [show a.length - i = (a.length - (i + 1)) + 1 by omega, Int.pow_succ]
    grind
theorem getD_map (F : Nat → Int) {N k : Nat} (h : k < N) : ((List.range N).map F).getD k 0 = F k := by
  rw [List.getD_eq_getElem?_getD, List.getElem?_map, List.getElem?_range h]; rfl
theorem vl_map (x : Int) (F : Nat → Int) (N : Nat) : vl ((List.range N).map F) x = val x F N := by
  unfold vl
  rw [List.length_map, List.length_range]
  exact val_congr fun k hk => getD_map F hk
theorem vl_mul (x : Int) {a b : List Int} (hb : 1 ≤ b.length) : vl (mulL a b) x = vl a x * vl b x := by
  unfold mulL
  rw [vl_map, val_cf x a b a.length (Nat.le_refl _) hb, Nat.sub_self]
  rw [Int.pow_zero, Int.mul_one]
  rfl
theorem vl_snoc (x : Int) (cs : List Int) (c : Int) : vl (cs ++ [c]) x = vl cs x * x + c := by
  unfold vl
  rw [List.length_append, List.length_singleton, val]
  congr 1
  · congr 1
    exact val_congr fun k hk => by rw [List.getD_eq_getElem?_getD, List.getD_eq_getElem?_getD, List.getElem?_append_left hk]
  · rw [List.getD_eq_getElem?_getD, List.getElem?_append_right (Nat.le_refl _), Nat.sub_self]; rfl
theorem evP_vl (x : Int) (cs : List Int) : ∀ i, i ≤ cs.length → evP x 1 (cs.take i) = (vl (cs.take i) x, 1)
  | 0, _ => rfl
  | i + 1, h => by
    have hg : cs[i]? = some cs[i] := List.getElem?_eq_getElem (by omega)
    rw [take_snoc hg, evP_snoc, evP_vl x cs i (by omega), vl_snoc]
    simp
theorem evL_vl (cs : List Int) (x : Int) : evL cs x 1 = vl cs x := by
  have h := evP_vl x cs cs.length (Nat.le_refl _)
  rw [List.take_length] at h
  unfold evL
  rw [h]
theorem evL_mul {a b : List Int} (x : Int) (hb : 1 ≤ b.length) : evL (mulL a b) x 1 = evL a x 1 * evL b x 1 := by rw [evL_vl, evL_vl, evL_vl, vl_mul x hb]
theorem getD_zip {as bs : List Int} (h : as.length = bs.length) (k : Nat) : (List.zipWith (· + ·) as bs).getD k 0 = as.getD k 0 + bs.getD k 0 := by
  rw [List.getD_eq_getElem?_getD, List.getD_eq_getElem?_getD, List.getD_eq_getElem?_getD, List.getElem?_zipWith]
  by_cases hk : k < as.length
  · rw [List.getElem?_eq_getElem hk, List.getElem?_eq_getElem (h ▸ hk)]; rfl
  · rw [List.getElem?_eq_none (by omega), List.getElem?_eq_none (by omega)]; rfl
theorem vl_zip (x : Int) {as bs : List Int} (h : as.length = bs.length) : vl (List.zipWith (· + ·) as bs) x = vl as x + vl bs x := by
  unfold vl
  rw [List.length_zipWith, ← h, Nat.min_self, ← val_add]
  exact val_congr fun k _ => getD_zip h k
theorem vl_scale (x c : Int) (as : List Int) : vl (as.map (c * ·)) x = c * vl as x := by
  unfold vl
  rw [List.length_map, ← val_mul]
  exact val_congr fun k _ => by
    rw [List.getD_eq_getElem?_getD, List.getD_eq_getElem?_getD, List.getElem?_map]
    cases as[k]? with
    | none => simp
    | some v => rfl
/-! ### sums of absolute values -/
def ab (cs : List Int) : List Int := cs.map fun c => (c.natAbs : Int)
theorem ab_length (cs : List Int) : (ab cs).length = cs.length := by simp [ab]
theorem ab_getD (cs : List Int) (k : Nat) : (ab cs).getD k 0 = ((cs.getD k 0).natAbs : Int) := by
  unfold ab
  rw [List.getD_eq_getElem?_getD, List.getD_eq_getElem?_getD, List.getElem?_map]
  cases cs[k]? <;> rfl
theorem sum_snoc (cs : List Int) (c : Int) : (cs ++ [c]).sum = cs.sum + c := by
  rw [List.sum_append]; simp
theorem vl_sum (cs : List Int) : ∀ i, i ≤ cs.length → vl (cs.take i) 1 = (cs.take i).sum
  | 0, _ => rfl
  | i + 1, h => by
    have hg : cs[i]? = some cs[i] := List.getElem?_eq_getElem (by omega)
    rw [take_snoc hg, vl_snoc, vl_sum cs i (by omega), sum_snoc]
    simp
theorem wide_vl (cs : List Int) : wide cs = vl (ab cs) 1 := by
  have h := vl_sum (ab cs) _ (Nat.le_refl _)
  rw [List.take_length] at h
  exact h.symm
theorem val_le {F G : Nat → Int} : ∀ {N : Nat}, (∀ k, k < N → F k ≤ G k) → val 1 F N ≤ val 1 G N
  | 0, _ => Int.le_refl 0
  | N + 1, h => by
    have h1 := val_le (N := N) fun k hk => h k (by omega)
    have h2 := h N (by omega)
    rw [val, val, Int.mul_one, Int.mul_one]
    omega
theorem cf_abs (a b : List Int) (k : Nat) : ∀ i, ((cf a b i k).natAbs : Int) ≤ cf (ab a) (ab b) i k
  | 0 => Int.le_refl 0
  | i + 1 => by
    have ih := cf_abs a b k i
    rw [cf, cf, ab_getD, ab_getD]
    split
    · have h1 := Int.natAbs_add_le (cf a b i k) (a.getD i 0 * b.getD (k - i) 0)
      rw [Int.natAbs_mul] at h1
      have h2 : (((a.getD i 0).natAbs * (b.getD (k - i) 0).natAbs : Nat) : Int) = ((a.getD i 0).natAbs : Int) * ((b.getD (k - i) 0).natAbs : Int) := Int.natCast_mul ..
      omega
    · rw [Int.add_zero, Int.add_zero]; exact ih
theorem wide_mul {a b : List Int} (hb : 1 ≤ b.length) : wide (mulL a b) ≤ wide a * wide b := by
  rw [wide_vl, wide_vl, wide_vl, ← vl_mul 1 (by rw [ab_length]; exact hb)]
  unfold vl
  rw [ab_length, mulL_length, mulL_length, ab_length, ab_length]
  refine val_le fun k hk => ?_
  rw [ab_getD]
  unfold mulL
  rw [getD_map _ hk, getD_map _ (by rw [ab_length, ab_length]; exact hk), ab_length]
  exact cf_abs a b k _
theorem wide_zip {as bs : List Int} (h : as.length = bs.length) : wide (List.zipWith (· + ·) as bs) ≤ wide as + wide bs := by
  rw [wide_vl, wide_vl, wide_vl, ← vl_zip 1 (by rw [ab_length, ab_length]; exact h)]
  unfold vl
  rw [ab_length, List.length_zipWith, List.length_zipWith, ab_length, ab_length]
  refine val_le fun k _ => ?_
  rw [ab_getD, getD_zip h, getD_zip (by rw [ab_length, ab_length]; exact h), ab_getD, ab_getD]
  have := Int.natAbs_add_le (as.getD k 0) (bs.getD k 0)
  omega
theorem wide_scale (c : Int) (as : List Int) : wide (as.map (c * ·)) = (c.natAbs : Int) * wide as := by
  have e : ab (as.map (c * ·)) = (ab as).map ((c.natAbs : Int) * ·) := by
    unfold ab
    rw [List.map_map, List.map_map]
    exact List.map_congr_left fun x _ => by show ((c * x).natAbs : Int) = _; rw [Int.natAbs_mul, Int.natCast_mul]; rfl
  rw [wide_vl, wide_vl, e, vl_scale]
theorem wide_nonneg (cs : List Int) : 0 ≤ wide cs := by
  unfold wide
  induction cs with
  | nil => exact Int.le_refl 0
  | cons c cs ih => rw [List.map_cons, List.sum_cons]; omega
theorem wide_mem {cs : List Int} {c : Int} (h : c ∈ cs) : (c.natAbs : Int) ≤ wide cs := by
  unfold wide
  induction cs with
  | nil => cases h
  | cons d cs ih =>
    rw [List.map_cons, List.sum_cons]
    have h2 := wide_nonneg cs
    unfold wide at h2
    rcases List.mem_cons.mp h with rfl | h
    · omega
    · have := ih h; omega
theorem wide_snoc (cs : List Int) (c : Int) : wide (cs ++ [c]) = wide cs + (c.natAbs : Int) := by
  unfold wide
  rw [List.map_append, List.sum_append]
  simp
/-! ### forms put in -/
structure SubV (form top bottom : List Int) (x p : Int) (i : Nat) (s : List Int × List Int) : Prop where
  l : s.1.length = 1 + i * (top.length - 1)
  l2 : s.2.length = 1 + i * (top.length - 1)
  v1 : vl s.1 x = (evP (vl top x) (vl bottom x) (form.take (i + 1))).1
  v2 : vl s.2 x * vl bottom x = (evP (vl top x) (vl bottom x) (form.take (i + 1))).2
  w1 : wide s.1 ≤ wide (form.take (i + 1)) * p ^ i
  w2 : wide s.2 ≤ p ^ i
theorem sub_val {form top bottom : List Int} (x p : Int) (P0 : 1 ≤ p) (P1 : wide top ≤ p) (P2 : wide bottom ≤ p) (hf : 1 ≤ form.length) (ht : 1 ≤ top.length) (hb : bottom.length = top.length) : ∀ i, i + 1 ≤ form.length → SubV form top bottom x p i (subP top bottom form i)
  | 0, _ => by
    obtain ⟨f, fs, rfl⟩ : ∃ f fs, form = f :: fs := by
      cases form with
      | nil => simp at hf
      | cons f fs => exact ⟨f, fs, rfl⟩
    refine ⟨by simp [subP], by simp [subP], ?_, ?_, ?_, ?_⟩
    · simp [subP, evP, vl, val]
    · simp [subP, evP, vl, val]
    · simp [subP, wide]
    · simp [subP, wide]
  | i + 1, h => by
    have I := sub_val x p P0 P1 P2 hf ht hb i (by omega)
    have hg : form[i + 1]? = some form[i + 1] := List.getElem?_eq_getElem (by omega)
    have hg2 : (form.drop 1)[i]? = some form[i + 1] := by rw [List.getElem?_drop, Nat.add_comm 1 i]; exact hg
    rw [subP_succ hg2]
    generalize form[i + 1] = c at *
    generalize subP top bottom form i = s at *
    have e1 : (i + 1) * (top.length - 1) = i * (top.length - 1) + (top.length - 1) := Nat.succ_mul ..
    have m2 : (mulL s.2 bottom).length = 1 + (i + 1) * (top.length - 1) := by rw [mulL_length, I.l2, hb]; omega
    have m1 : (mulL s.1 top).length = 1 + (i + 1) * (top.length - 1) := by rw [mulL_length, I.l]; omega
    have hl : (mulL s.1 top).length = ((mulL s.2 bottom).map (c * ·)).length := by rw [List.length_map, m1, m2]
    have hb1 : 1 ≤ bottom.length := by omega
    have tk : form.take (i + 1 + 1) = form.take (i + 1) ++ [c] := take_snoc hg
    have w1 := I.w1
    have w2 := I.w2
    have pp : 0 ≤ p ^ i := Int.pow_nonneg (by omega)
    have W2 : wide (mulL s.2 bottom) ≤ p ^ (i + 1) := by
      refine Int.le_trans (wide_mul hb1) ?_
      rw [Int.pow_succ]
      exact Int.mul_le_mul w2 P2 (wide_nonneg _) pp
    have W1 : wide (mulL s.1 top) ≤ wide (form.take (i + 1)) * p ^ (i + 1) := by
      refine Int.le_trans (wide_mul ht) ?_
      rw [Int.pow_succ, ← Int.mul_assoc]
      exact Int.mul_le_mul w1 P1 (wide_nonneg _) (Int.mul_nonneg (wide_nonneg _) pp)
    refine ⟨?_, m2, ?_, ?_, ?_, W2⟩
    · show (List.zipWith _ _ _).length = _
      rw [List.length_zipWith, ← hl, Nat.min_self, m1]
    · show vl (List.zipWith _ _ _) x = _
      rw [vl_zip x hl, vl_mul x ht, vl_scale, vl_mul x hb1, tk, evP_snoc, I.v1, I.v2]
    · show vl (mulL s.2 bottom) x * _ = _
      rw [vl_mul x hb1, tk, evP_snoc, I.v2]
    · show wide (List.zipWith _ _ _) ≤ _
      refine Int.le_trans (wide_zip hl) ?_
      rw [wide_scale, tk, wide_snoc]
      have h3 : (c.natAbs : Int) * wide (mulL s.2 bottom) ≤ (c.natAbs : Int) * p ^ (i + 1) := Int.mul_le_mul_of_nonneg_left W2 (by omega)
      grind
theorem subL_val {form top bottom : List Int} (x p : Int) (P0 : 1 ≤ p) (P1 : wide top ≤ p) (P2 : wide bottom ≤ p) (hf : 1 ≤ form.length) (ht : 1 ≤ top.length) (hb : bottom.length = top.length) :
    (subL form top bottom).length = (form.length - 1) * (top.length - 1) + 1 ∧ vl (subL form top bottom) x = evL form (vl top x) (vl bottom x) ∧
    wide (subL form top bottom) ≤ wide form * p ^ (form.length - 1) := by
  have I := sub_val x p P0 P1 P2 hf ht hb (form.length - 1) (by omega)
  have e : form.take (form.length - 1 + 1) = form := by rw [show form.length - 1 + 1 = form.length by omega, List.take_length]
  refine ⟨by rw [Nat.add_comm]; exact I.l, ?_, ?_⟩
  · have := I.v1
    rw [e] at this
    exact this
  · have := I.w1
    rw [e] at this
    exact this
/-! ### normal rows -/
theorem gcds_foldl_mul (b : Int) : ∀ (cs : List Int) (g : Nat), (cs.map (· * b)).foldl (fun g c => Int.gcd (g : Int) c) (g * b.natAbs) = cs.foldl (fun g c => Int.gcd (g : Int) c) g * b.natAbs
  | [], g => rfl
  | c :: cs, g => by
    rw [List.map_cons, List.foldl_cons, List.foldl_cons]
    have e : Int.gcd ((g * b.natAbs : Nat) : Int) (c * b) = Int.gcd (g : Int) c * b.natAbs := by
      show Nat.gcd (Int.natAbs ((g * b.natAbs : Nat) : Int)) (c * b).natAbs = Nat.gcd (Int.natAbs (g : Int)) c.natAbs * b.natAbs
      rw [Int.natAbs_mul, Int.natAbs_natCast, Int.natAbs_natCast, Nat.gcd_mul_right]
    rw [e]
    exact gcds_foldl_mul b cs _
theorem gcds_mul (cs : List Int) (b : Int) : gcds (cs.map (· * b)) = gcds cs * b.natAbs := by
  have h := gcds_foldl_mul b cs 0
  rw [Nat.zero_mul] at h
  exact h
theorem lead_mul {b : Int} (hb : b ≠ 0) : ∀ cs : List Int, lead (cs.map (· * b)) = lead cs * b
  | [] => by simp [lead]
  | c :: cs => by
    have ih := lead_mul hb cs
    unfold lead at *
    rw [List.map_cons, List.filter_cons, List.filter_cons]
    by_cases h : c = 0
    · subst h
      rw [Int.zero_mul]
      simpa using ih
    · have h2 : c * b ≠ 0 := Int.mul_ne_zero h hb
      rw [if_pos (by simpa using h2), if_pos (by simpa using h)]
      rfl
theorem lead_nz {cs : List Int} (h : gcds cs ≠ 0) : lead cs ≠ 0 := by
  obtain ⟨_, _, h1, _⟩ := lead_at h
  exact h1
theorem nsg_nz {cs : List Int} (h : gcds cs ≠ 0) : nsg cs ≠ 0 := by
  unfold nsg; split <;> omega
theorem nsg_abs (cs : List Int) : (nsg cs).natAbs = gcds cs := by
  unfold nsg; split <;> omega
theorem nsg_mul {cs : List Int} {b : Int} (h : gcds cs ≠ 0) (hb : b ≠ 0) : nsg (cs.map (· * b)) = nsg cs * b := by
  have hl := lead_nz h
  unfold nsg
  rw [lead_mul hb, gcds_mul, Int.natCast_mul]
  rcases (by omega : 0 < b ∨ b < 0) with hb | hb
  · rw [show ((b.natAbs : Nat) : Int) = b by omega]
    by_cases h1 : lead cs > 0
    · rw [if_pos h1, if_pos (Int.mul_pos h1 hb)]
    · have := Int.mul_neg_of_neg_of_pos (show lead cs < 0 by omega) hb
      rw [if_neg h1, if_neg (by omega), Int.neg_mul]
  · rw [show ((b.natAbs : Nat) : Int) = -b by omega]
    by_cases h1 : lead cs > 0
    · have := Int.mul_neg_of_pos_of_neg h1 hb
      rw [if_pos h1, if_neg (by omega), Int.mul_neg, Int.neg_neg]
    · rw [if_neg h1, if_pos (Int.mul_pos_of_neg_of_neg (show lead cs < 0 by omega) hb), Int.mul_neg, Int.neg_mul]
theorem nsg_dvd {cs : List Int} {c : Int} (h : c ∈ cs) : nsg cs ∣ c := by
  have h1 := gcds_mem h
  unfold nsg
  split
  · exact h1
  · exact Int.neg_dvd.mpr h1
/-- a row is its normal form times a number -/
theorem nrm_back {cs : List Int} (h : gcds cs ≠ 0) : cs = (nrm cs).map (· * nsg cs) := by
  unfold nrm
  rw [if_neg h, List.map_map]
  refine Eq.symm ?_
  have e : ∀ c ∈ cs, ((· * nsg cs) ∘ (·.fdiv (nsg cs))) c = id c := fun c hc => by
    obtain ⟨k, rfl⟩ := nsg_dvd hc
    show (nsg cs * k).fdiv (nsg cs) * nsg cs = _
    rw [Int.mul_fdiv_cancel_left _ (nsg_nz h), Int.mul_comm]; rfl
  rw [List.map_congr_left e, List.map_id]
theorem nrm_gcds {cs : List Int} (h : gcds cs ≠ 0) : gcds (nrm cs) = 1 := by
  have e := gcds_mul (nrm cs) (nsg cs)
  rw [← nrm_back h, nsg_abs] at e
  have e2 : 1 * gcds cs = gcds (nrm cs) * gcds cs := by rw [Nat.one_mul]; exact e
  exact (Nat.eq_of_mul_eq_mul_right (Nat.pos_of_ne_zero h) e2).symm
theorem nrm_lead {cs : List Int} (h : gcds cs ≠ 0) : 0 < lead (nrm cs) := by
  have e := lead_mul (nsg_nz h) (nrm cs)
  rw [← nrm_back h] at e
  have h1 := lead_nz h
  have h2 : nsg cs = if lead cs > 0 then ((gcds cs : Nat) : Int) else -((gcds cs : Nat) : Int) := rfl
  rcases Int.lt_trichotomy (lead (nrm cs)) 0 with z | z | z
  · exfalso
    by_cases p : lead cs > 0
    · rw [if_pos p] at h2
      have := Int.mul_neg_of_neg_of_pos z (show 0 < nsg cs by omega)
      omega
    · rw [if_neg p] at h2
      have := Int.mul_pos_of_neg_of_neg z (show nsg cs < 0 by omega)
      omega
  · rw [z, Int.zero_mul] at e; exact absurd e h1
  · exact z
theorem nrm_nsg {cs : List Int} (h : gcds cs ≠ 0) : nsg (nrm cs) = 1 := by
  unfold nsg
  rw [if_pos (nrm_lead h), nrm_gcds h]; rfl
theorem nrm_self {cs : List Int} (h : gcds cs = 1) (hl : 0 < lead cs) : nrm cs = cs := by
  unfold nrm nsg
  rw [if_neg (by omega), if_pos hl, h]
  have e : ∀ c ∈ cs, c.fdiv ((1 : Nat) : Int) = id c := fun c _ => by
    show c.fdiv 1 = c
    exact Int.fdiv_one c
  rw [List.map_congr_left e, List.map_id]
theorem nrm_nrm {cs : List Int} (h : gcds cs ≠ 0) : nrm (nrm cs) = nrm cs := nrm_self (nrm_gcds h) (nrm_lead h)
theorem nrm_mul {cs : List Int} {b : Int} (h : gcds cs ≠ 0) (hb : b ≠ 0) : nrm (cs.map (· * b)) = nrm cs := by
  have hg : gcds (cs.map (· * b)) ≠ 0 := by
    rw [gcds_mul]
    exact Nat.mul_ne_zero h (by omega)
  have e : nrm (cs.map (· * b)) = (cs.map (· * b)).map (·.fdiv (nsg cs * b)) := by
    unfold nrm
    rw [if_neg hg, nsg_mul h hb]
  rw [e, List.map_map]
  unfold nrm
  rw [if_neg h]
  refine List.map_congr_left fun c hc => ?_
  obtain ⟨k, rfl⟩ := nsg_dvd hc
  show (nsg cs * k * b).fdiv (nsg cs * b) = (nsg cs * k).fdiv (nsg cs)
  have h2 : nsg cs * b ≠ 0 := Int.mul_ne_zero (nsg_nz h) hb
  rw [Int.mul_fdiv_cancel_left _ (nsg_nz h), show nsg cs * k * b = (nsg cs * b) * k by rw [Int.mul_assoc, Int.mul_assoc, Int.mul_comm k b], Int.mul_fdiv_cancel_left _ h2]
theorem nrm_length (cs : List Int) : (nrm cs).length = cs.length := by unfold nrm; split <;> simp
/-- back times the content: the row or its negative -/
theorem nrm_content {cs : List Int} (h : gcds cs ≠ 0) : (nrm cs).map (· * ((gcds cs : Nat) : Int)) = cs ∨ ((nrm cs).map (· * ((gcds cs : Nat) : Int))).map (fun c => -c) = cs := by
  have hb := nrm_back h
  have h2 : nsg cs = if lead cs > 0 then ((gcds cs : Nat) : Int) else -((gcds cs : Nat) : Int) := rfl
  by_cases p : lead cs > 0
  · rw [if_pos p] at h2
    rw [h2] at hb
    exact .inl hb.symm
  · rw [if_neg p] at h2
    rw [h2] at hb
    right
    rw [List.map_map]
    refine Eq.trans ?_ hb.symm
    exact List.map_congr_left fun c _ => by show -(c * _) = _; rw [Int.mul_neg]
theorem nrm_le {cs : List Int} {c : Int} (h : gcds cs ≠ 0) {n : Nat} (hn : ∀ c ∈ cs, c.natAbs < 2 ^ n) (hc : c ∈ nrm cs) : c.natAbs < 2 ^ n := by
  unfold nrm at hc
  rw [if_neg h] at hc
  obtain ⟨a, ha, rfl⟩ := List.mem_map.mp hc
  have h1 := hn a ha
  obtain ⟨k, rfl⟩ := nsg_dvd ha
  rw [Int.mul_fdiv_cancel_left _ (nsg_nz h)]
  have h2 : 1 ≤ (nsg cs).natAbs := by have := nsg_nz h; omega
  rw [Int.natAbs_mul] at h1
  exact Nat.lt_of_le_of_lt (Nat.le_mul_of_pos_left _ h2) h1
/-- the linear row of a fraction in lowest terms -/
theorem nrm_lin {u v : Int} (hv : 0 < v) (hg : Int.gcd v u = 1) : nrm [v, -u] = [v, -u] := by
  refine nrm_self ?_ ?_
  · show Int.gcd ((Int.gcd 0 v : Nat) : Int) (-u) = 1
    rw [Int.gcd_neg, Int.gcd_zero_left, show ((v.natAbs : Nat) : Int) = v by omega]
    exact hg
  · unfold lead
    rw [List.filter_cons, if_pos (by simp; omega)]
    exact hv
theorem gcd_near {a b e : Int} (he : e = 1 ∨ e = -1) : Int.gcd b (a * b + e) = 1 := by
  have h1 : ((Int.gcd b (a * b + e) : Nat) : Int) ∣ b := Int.gcd_dvd_left ..
  have h2 : ((Int.gcd b (a * b + e) : Nat) : Int) ∣ a * b + e := Int.gcd_dvd_right ..
  have h3 : ((Int.gcd b (a * b + e) : Nat) : Int) ∣ e := by
    have := Int.dvd_sub h2 (Int.dvd_mul_of_dvd_right (b := a) h1)
    rwa [show a * b + e - a * b = e by omega] at this
  have h4 := Int.natAbs_dvd_natAbs.mpr h3
  rw [Int.natAbs_natCast] at h4
  rcases he with rfl | rfl
  · exact Nat.dvd_one.mp h4
  · exact Nat.dvd_one.mp h4
end Sn

/-! Sn: picks out of written lists, comprehensions of ints, rows as data. -/
namespace Sn
open PySem PySem.Spec PyProof.Rows L2 RZ
def ckI (lo : Int) (n : Nat) : D → Bool
  | .int i => decide (lo ≤ i) && decide (i.natAbs < 2 ^ n)
  | _ => false
/-- an item of a written list of ints -/
theorem pickB {lo : Int} {n : Nat} {ds : List D} {r : Int} (h : ds.all (ckI lo n) = true) (h0 : 0 ≤ r) (h1 : r < ((ds.length : Nat) : Int)) : ∃ m, atI ds r = some (.int m) ∧ lo ≤ m ∧ Bd n m := by
  obtain ⟨d, hd, hp⟩ := at_mem (P := fun d => ckI lo n d = true) h0 h1 (fun x hx => List.all_eq_true.mp h x hx)
  cases d with
  | int i =>
    unfold ckI at hp
    rw [Bool.and_eq_true, decide_eq_true_eq, decide_eq_true_eq] at hp
    exact ⟨i, hd, hp.1, ⟨hp.2⟩⟩
  | _ => cases hp
theorem pickP {P : D → Prop} {ds : List D} {r : Int} (h0 : 0 ≤ r) (h1 : r < ((ds.length : Nat) : Int)) (h : ∀ x ∈ ds, P x) : ∃ d, atI ds r = some d ∧ P d := at_mem h0 h1 h
def AllOf {α : Type} (P : α → Prop) : List α → Prop
  | [] => True
  | d :: r => P d ∧ AllOf P r
theorem AllOf.mem {α : Type} {P : α → Prop} : ∀ {ds : List α}, AllOf P ds → ∀ x ∈ ds, P x
  | _ :: _, h, x, hx => by
    rcases List.mem_cons.mp hx with rfl | hx
    · exact h.1
    · exact AllOf.mem h.2 x hx
theorem atI_ints {cs : List Int} {i : Nat} {c : Int} (h : cs[i]? = some c) : atI (cs.map D.int) (i : Int) = some (.int c) := Sn.atI_nat (by rw [List.getElem?_map, h]; rfl)
section
variable {E : En} {ε : Ep} {μ : Mu} {te : TE} {tt : TT} {wi : TI} {g : TG} {vs : List Nat} {Ψ : W → Mu → Prop}
/-- [f c for c in ints if p c] -/
theorem re_lcVI (f : Int → Int) (p : Int → Bool) (hi : RI E wi ε μ fun ds μ1 => ∃ cs : List Int, ds = cs.map .int ∧ cs.length ≤ 1000000 ∧ (∀ c ∈ cs, RGW E.mute vs g (.i c) (wipeE ε vs) μ1 fun ε2 μ3 => μ3 = μ1 ∧ VT E.mute tt ε2 μ1 (p c) ∧ (p c = true → VE E.mute te ε2 μ1 (.i (f c)))) ∧ Ψ (.dat (.lst (((cs.filter p).map f).map .int))) μ1) : RE E (tLc wi g tt te vs) ε μ Ψ := by
  refine re_lcV (fun d => match d with | .int c => .int (f c) | d => d) (fun d => match d with | .int c => p c | _ => true) fun σ G H C X R k => hi σ G H C X R fun J ds Gi Y G1 H1 μ1 S1 s1 w hg hy ⟨cs, e, hl, hs, q⟩ => k J ds Gi Y G1 H1 μ1 S1 s1 w hg hy ?_
  subst e
  refine ⟨len_ok (by rw [List.length_map]; exact hl), fun d hd => ?_, ?_⟩
  · obtain ⟨c, hc, rfl⟩ := List.mem_map.mp hd
    exact hs c hc
  · rw [List.filter_map, List.map_map]
    rw [List.map_map] at q
    exact q
theorem re_lcI (f : Int → Int) (hi : RI E wi ε μ fun ds μ1 => ∃ cs : List Int, ds = cs.map .int ∧ cs.length ≤ 1000000 ∧ (∀ c ∈ cs, RGW E.mute vs g (.i c) (wipeE ε vs) μ1 fun ε2 μ3 => μ3 = μ1 ∧ VE E.mute te ε2 μ1 (.i (f c))) ∧ Ψ (.dat (.lst ((cs.map f).map .int))) μ1) : RE E (tLc wi g tYes te vs) ε μ Ψ := by
  refine re_lcVI f (fun _ => true) fun σ G H C X R k => hi σ G H C X R fun J ds Gi Y G1 H1 μ1 S1 s1 w hg hy ⟨cs, e, hl, hs, q⟩ => k J ds Gi Y G1 H1 μ1 S1 s1 w hg hy ⟨cs, e, hl, fun c hc => ?_, ?_⟩
  · exact fun σ G H C v r Q kq => hs c hc σ G H C v r Q fun σ' ε' G' H' μ' S' s' w' ⟨e, he⟩ => kq σ' ε' G' H' μ' S' s' w' ⟨e, vt_yes, fun _ => he⟩
  · rw [List.filter_eq_self.mpr fun _ _ => rfl]; exact q
/-- [f i for i in range(n)] -/
theorem re_lcR (f : Nat → D) (hi : RI E wi ε μ fun ds μ1 => ∃ n : Nat, ds = rng 0 n ∧ n ≤ 1000000 ∧ (∀ i : Nat, i < n → RGW E.mute vs g (.i (i : Int)) (wipeE ε vs) μ1 fun ε2 μ3 => μ3 = μ1 ∧ VE E.mute te ε2 μ1 (.dat (f i))) ∧ Ψ (.dat (.lst ((List.range n).map f))) μ1) : RE E (tLc wi g tYes te vs) ε μ Ψ := by
  refine re_lcM (fun d => match d with | .int c => f c.toNat | d => d) fun σ G H C X R k => hi σ G H C X R fun J ds Gi Y G1 H1 μ1 S1 s1 w hg hy ⟨n, e, hl, hs, q⟩ => k J ds Gi Y G1 H1 μ1 S1 s1 w hg hy ?_
  subst e
  refine ⟨len_ok (by rw [rng_length]; exact hl), fun d hd => ?_, ?_⟩
  · obtain ⟨i, hi, rfl⟩ := List.mem_map.mp hd
    rw [Int.zero_add]
    exact hs i (List.mem_range.mp hi)
  · have e : (rng 0 n).map (fun d => match d with | .int c => f c.toNat | d => d) = (List.range n).map f := by
      unfold rng
      rw [List.map_map]
      refine List.map_congr_left fun i _ => ?_
      show f ((0 : Int) + (i : Int)).toNat = f i
      rw [Int.zero_add, Int.toNat_natCast]
    rw [e]; exact q
end
theorem nuMax2_int (i j : Int) : nuMax2 (.int i) (.int j) = some (.int (max i j)) := by
  have e : nuMax2 (.int i) (.int j) = some (if decide (i < j) = true then .int j else .int i) := rfl
  rw [e]
  congr 1
  rw [Int.max_def]
  by_cases h : i < j
  · rw [decide_eq_true h, if_pos rfl, if_pos (by omega)]
  · rw [decide_eq_false h, if_neg Bool.false_ne_true]
    split
    · rw [show i = j by omega]
    · rfl
theorem vc_max3 {E : En} {μ : Mu} {i j k : Int} : VC E (rNuC3 nuMax3) [.i i, .i j, .i k] μ (.i (max (max i j) k)) := fun G H S vs rs Q q => by
  cases rs with
  | cons r t =>
    cases t with
    | cons r2 t =>
      cases t with
      | cons r3 t =>
        cases r; cases r2; cases r3; cases t
        refine ⟨_, _, _, _, rfl, ?_, q _ (Dr.int _)⟩
        show (nuMax2 (.int i) (.int j)).bind (fun m => nuMax2 m (.int k)) = _
        rw [nuMax2_int]
        exact nuMax2_int _ _
theorem Bd.zero {n : Nat} : Bd n 0 := ⟨Nat.pow_pos (by decide)⟩
/-- a statement that leaves all as it is -/
theorem rs_keep {E : En} {t : TS} {ε : Ep} {μ : Mu} {Φ : Fi} (h1 : RS E t ε μ { Φ with nx := fun ε' μ' => ε = ε' ∧ μ = μ' }) (h2 : Φ.nx ε μ) : RS E t ε μ Φ := rs_to _ h1 fun ε' μ' h => by
  obtain ⟨rfl, rfl⟩ := h
  exact h2
/-- .. but for the owned objects -/
theorem rs_keepM {E : En} {t : TS} {ε : Ep} {μ : Mu} {Φ : Fi} (J : Mu → Prop) (h1 : RS E t ε μ { Φ with nx := fun ε' μ' => ε = ε' ∧ J μ' }) (h2 : ∀ μ', J μ' → Φ.nx ε μ') : RS E t ε μ Φ := rs_to _ h1 fun ε' μ' h => by
  obtain ⟨rfl, h⟩ := h
  exact h2 _ h
/-- .. but for one slot -/
theorem rs_slot {E : En} {t : TS} {ε : Ep} {μ : Mu} {Φ : Fi} (j : Nat) (J : Option W → Mu → Prop) (h1 : RS E t ε μ { Φ with nx := fun ε' μ' => ∃ o, ε.set j o = ε' ∧ J o μ' }) (h2 : ∀ o μ', J o μ' → Φ.nx (ε.set j o) μ') : RS E t ε μ Φ := rs_to _ h1 fun ε' μ' h => by
  obtain ⟨o, rfl, h⟩ := h
  exact h2 _ _ h
theorem rs_slot2 {E : En} {t : TS} {ε : Ep} {μ : Mu} {Φ : Fi} (j k : Nat) (J : Option W → Option W → Mu → Prop) (h1 : RS E t ε μ { Φ with nx := fun ε' μ' => ∃ o p, (ε.set j o).set k p = ε' ∧ J o p μ' }) (h2 : ∀ o p μ', J o p μ' → Φ.nx ((ε.set j o).set k p) μ') : RS E t ε μ Φ := rs_to _ h1 fun ε' μ' h => by
  obtain ⟨o, p, rfl, h⟩ := h
  exact h2 _ _ _ h
theorem set_at {ε : Ep} {j : Nat} {o : Option W} (h : ε[j]? = some o) : ε.set j o = ε := by
  apply List.ext_getElem?
  intro i
  rw [List.getElem?_set]
  split
  · rename_i e
    subst e
    rw [if_pos (List.getElem?_eq_some_iff.mp h).1, h]
  · rfl
section
variable {E : En} {ε : Ep} {μ : Mu} {t : TS} {g : TG} {Φ : Fi} {ti : TI}
/-- a loop that leaves all slots but one -/
theorem rs_forI1 (j : Nat) (P : Nat → Option W → Mu → Prop) (hv : RI E ti ε μ fun ds μ1 => (∃ o, ε[j]? = some o ∧ P 0 o μ1) ∧ (∀ (i : Nat) d o μ', ds[i]? = some d → P i o μ' → RG E g (.dat d) (ε.set j o) μ' fun ε2 μ2 => RS E t ε2 μ2 (Φ.turn fun ε3 μ3 => ∃ o, ε.set j o = ε3 ∧ P (i + 1) o μ3)) ∧ ∀ o μ', P ds.length o μ' → Φ.nx (ε.set j o) μ') : RS E (tFor ti g t) ε μ Φ :=
  rs_forI fun σ G H C X R k => hv σ G H C X R fun J ds Gi Y G1 H1 μ1 S1 s1 w hg hy ⟨⟨o, h0, p0⟩, hs, hd⟩ => k J ds Gi Y G1 H1 μ1 S1 s1 w hg hy
    ⟨fun i ε' μ' => ∃ o, ε.set j o = ε' ∧ P i o μ', ⟨o, set_at h0, p0⟩, fun i d ε' μ' hd1 ⟨o, e, p⟩ => by subst e; exact hs i d o μ' hd1 p, fun ε' μ' ⟨o, e, p⟩ => by subst e; exact hd o μ' p⟩
theorem rs_forI2 (j k : Nat) (P : Nat → Option W → Option W → Mu → Prop) (hv : RI E ti ε μ fun ds μ1 => (∃ o p, ε[j]? = some o ∧ ε[k]? = some p ∧ P 0 o p μ1) ∧ (∀ (i : Nat) d o p μ', ds[i]? = some d → P i o p μ' → RG E g (.dat d) ((ε.set j o).set k p) μ' fun ε2 μ2 => RS E t ε2 μ2 (Φ.turn fun ε3 μ3 => ∃ o p, (ε.set j o).set k p = ε3 ∧ P (i + 1) o p μ3)) ∧ ∀ o p μ', P ds.length o p μ' → Φ.nx ((ε.set j o).set k p) μ') : RS E (tFor ti g t) ε μ Φ :=
  rs_forI fun σ G H C X R kk => hv σ G H C X R fun J ds Gi Y G1 H1 μ1 S1 s1 w hg hy ⟨⟨o, p, h0, h1, p0⟩, hs, hd⟩ => kk J ds Gi Y G1 H1 μ1 S1 s1 w hg hy
    ⟨fun i ε' μ' => ∃ o p, (ε.set j o).set k p = ε' ∧ P i o p μ', ⟨o, p, by rw [set_at h0, set_at h1], p0⟩, fun i d ε' μ' hd1 ⟨o, p, e, q⟩ => by subst e; exact hs i d o p μ' hd1 q, fun ε' μ' ⟨o, p, e, q⟩ => by subst e; exact hd o p μ' q⟩
theorem rs_forI3 (j k l : Nat) (P : Nat → Option W → Option W → Option W → Mu → Prop) (hv : RI E ti ε μ fun ds μ1 => (∃ o p q, ε[j]? = some o ∧ ε[k]? = some p ∧ ε[l]? = some q ∧ P 0 o p q μ1) ∧ (∀ (i : Nat) d o p q μ', ds[i]? = some d → P i o p q μ' → RG E g (.dat d) (((ε.set j o).set k p).set l q) μ' fun ε2 μ2 => RS E t ε2 μ2 (Φ.turn fun ε3 μ3 => ∃ o p q, ((ε.set j o).set k p).set l q = ε3 ∧ P (i + 1) o p q μ3)) ∧ ∀ o p q μ', P ds.length o p q μ' → Φ.nx (((ε.set j o).set k p).set l q) μ') : RS E (tFor ti g t) ε μ Φ :=
  rs_forI fun σ G H C X R kk => hv σ G H C X R fun J ds Gi Y G1 H1 μ1 S1 s1 w hg hy ⟨⟨o, p, q, h0, h1, h2, p0⟩, hs, hd⟩ => kk J ds Gi Y G1 H1 μ1 S1 s1 w hg hy
    ⟨fun i ε' μ' => ∃ o p q, ((ε.set j o).set k p).set l q = ε' ∧ P i o p q μ', ⟨o, p, q, by rw [set_at h0, set_at h1, set_at h2], p0⟩, fun i d ε' μ' hd1 ⟨o, p, q, e, z⟩ => by subst e; exact hs i d o p q μ' hd1 z, fun ε' μ' ⟨o, p, q, e, z⟩ => by subst e; exact hd o p q μ' z⟩
theorem rs_forI4 (j0 j1 j2 j3 : Nat) (P : Nat → Option W → Option W → Option W → Option W → Mu → Prop) (hv : RI E ti ε μ fun ds μ1 => (∃ o0 o1 o2 o3, ε[j0]? = some o0 ∧ ε[j1]? = some o1 ∧ ε[j2]? = some o2 ∧ ε[j3]? = some o3 ∧ P 0 o0 o1 o2 o3 μ1) ∧ (∀ (i : Nat) d o0 o1 o2 o3 μ', ds[i]? = some d → P i o0 o1 o2 o3 μ' → RG E g (.dat d) ((((ε.set j0 o0).set j1 o1).set j2 o2).set j3 o3) μ' fun ε2 μ2 => RS E t ε2 μ2 (Φ.turn fun ε3 μ3 => ∃ o0 o1 o2 o3, ((((ε.set j0 o0).set j1 o1).set j2 o2).set j3 o3) = ε3 ∧ P (i + 1) o0 o1 o2 o3 μ3)) ∧ ∀ o0 o1 o2 o3 μ', P ds.length o0 o1 o2 o3 μ' → Φ.nx ((((ε.set j0 o0).set j1 o1).set j2 o2).set j3 o3) μ') : RS E (tFor ti g t) ε μ Φ :=
  rs_forI fun σ G H C X R kk => hv σ G H C X R fun J ds Gi Y G1 H1 μ1 S1 s1 w hg hy ⟨⟨o0, o1, o2, o3, h0, h1, h2, h3, p0⟩, hs, hd⟩ => kk J ds Gi Y G1 H1 μ1 S1 s1 w hg hy
    ⟨fun i ε' μ' => ∃ o0 o1 o2 o3, ((((ε.set j0 o0).set j1 o1).set j2 o2).set j3 o3) = ε' ∧ P i o0 o1 o2 o3 μ', ⟨o0, o1, o2, o3, by rw [set_at h0, set_at h1, set_at h2, set_at h3], p0⟩, fun i d ε' μ' hd1 ⟨o0, o1, o2, o3, e, z⟩ => by subst e; exact hs i d o0 o1 o2 o3 μ' hd1 z, fun ε' μ' ⟨o0, o1, o2, o3, e, z⟩ => by subst e; exact hd o0 o1 o2 o3 μ' z⟩
theorem rs_forI5 (j0 j1 j2 j3 j4 : Nat) (P : Nat → Option W → Option W → Option W → Option W → Option W → Mu → Prop) (hv : RI E ti ε μ fun ds μ1 => (∃ o0 o1 o2 o3 o4, ε[j0]? = some o0 ∧ ε[j1]? = some o1 ∧ ε[j2]? = some o2 ∧ ε[j3]? = some o3 ∧ ε[j4]? = some o4 ∧ P 0 o0 o1 o2 o3 o4 μ1) ∧ (∀ (i : Nat) d o0 o1 o2 o3 o4 μ', ds[i]? = some d → P i o0 o1 o2 o3 o4 μ' → RG E g (.dat d) (((((ε.set j0 o0).set j1 o1).set j2 o2).set j3 o3).set j4 o4) μ' fun ε2 μ2 => RS E t ε2 μ2 (Φ.turn fun ε3 μ3 => ∃ o0 o1 o2 o3 o4, (((((ε.set j0 o0).set j1 o1).set j2 o2).set j3 o3).set j4 o4) = ε3 ∧ P (i + 1) o0 o1 o2 o3 o4 μ3)) ∧ ∀ o0 o1 o2 o3 o4 μ', P ds.length o0 o1 o2 o3 o4 μ' → Φ.nx (((((ε.set j0 o0).set j1 o1).set j2 o2).set j3 o3).set j4 o4) μ') : RS E (tFor ti g t) ε μ Φ :=
  rs_forI fun σ G H C X R kk => hv σ G H C X R fun J ds Gi Y G1 H1 μ1 S1 s1 w hg hy ⟨⟨o0, o1, o2, o3, o4, h0, h1, h2, h3, h4, p0⟩, hs, hd⟩ => kk J ds Gi Y G1 H1 μ1 S1 s1 w hg hy
    ⟨fun i ε' μ' => ∃ o0 o1 o2 o3 o4, (((((ε.set j0 o0).set j1 o1).set j2 o2).set j3 o3).set j4 o4) = ε' ∧ P i o0 o1 o2 o3 o4 μ', ⟨o0, o1, o2, o3, o4, by rw [set_at h0, set_at h1, set_at h2, set_at h3, set_at h4], p0⟩, fun i d ε' μ' hd1 ⟨o0, o1, o2, o3, o4, e, z⟩ => by subst e; exact hs i d o0 o1 o2 o3 o4 μ' hd1 z, fun ε' μ' ⟨o0, o1, o2, o3, o4, e, z⟩ => by subst e; exact hd o0 o1 o2 o3 o4 μ' z⟩
theorem rs_forI6 (j0 j1 j2 j3 j4 j5 : Nat) (P : Nat → Option W → Option W → Option W → Option W → Option W → Option W → Mu → Prop) (hv : RI E ti ε μ fun ds μ1 => (∃ o0 o1 o2 o3 o4 o5, ε[j0]? = some o0 ∧ ε[j1]? = some o1 ∧ ε[j2]? = some o2 ∧ ε[j3]? = some o3 ∧ ε[j4]? = some o4 ∧ ε[j5]? = some o5 ∧ P 0 o0 o1 o2 o3 o4 o5 μ1) ∧ (∀ (i : Nat) d o0 o1 o2 o3 o4 o5 μ', ds[i]? = some d → P i o0 o1 o2 o3 o4 o5 μ' → RG E g (.dat d) ((((((ε.set j0 o0).set j1 o1).set j2 o2).set j3 o3).set j4 o4).set j5 o5) μ' fun ε2 μ2 => RS E t ε2 μ2 (Φ.turn fun ε3 μ3 => ∃ o0 o1 o2 o3 o4 o5, ((((((ε.set j0 o0).set j1 o1).set j2 o2).set j3 o3).set j4 o4).set j5 o5) = ε3 ∧ P (i + 1) o0 o1 o2 o3 o4 o5 μ3)) ∧ ∀ o0 o1 o2 o3 o4 o5 μ', P ds.length o0 o1 o2 o3 o4 o5 μ' → Φ.nx ((((((ε.set j0 o0).set j1 o1).set j2 o2).set j3 o3).set j4 o4).set j5 o5) μ') : RS E (tFor ti g t) ε μ Φ :=
  rs_forI fun σ G H C X R kk => hv σ G H C X R fun J ds Gi Y G1 H1 μ1 S1 s1 w hg hy ⟨⟨o0, o1, o2, o3, o4, o5, h0, h1, h2, h3, h4, h5, p0⟩, hs, hd⟩ => kk J ds Gi Y G1 H1 μ1 S1 s1 w hg hy
    ⟨fun i ε' μ' => ∃ o0 o1 o2 o3 o4 o5, ((((((ε.set j0 o0).set j1 o1).set j2 o2).set j3 o3).set j4 o4).set j5 o5) = ε' ∧ P i o0 o1 o2 o3 o4 o5 μ', ⟨o0, o1, o2, o3, o4, o5, by rw [set_at h0, set_at h1, set_at h2, set_at h3, set_at h4, set_at h5], p0⟩, fun i d ε' μ' hd1 ⟨o0, o1, o2, o3, o4, o5, e, z⟩ => by subst e; exact hs i d o0 o1 o2 o3 o4 o5 μ' hd1 z, fun ε' μ' ⟨o0, o1, o2, o3, o4, o5, e, z⟩ => by subst e; exact hd o0 o1 o2 o3 o4 o5 μ' z⟩
theorem rs_slot3 (j0 j1 j2 : Nat) (J : Option W → Option W → Option W → Mu → Prop) (h1 : RS E t ε μ { Φ with nx := fun ε' μ' => ∃ o0 o1 o2, (((ε.set j0 o0).set j1 o1).set j2 o2) = ε' ∧ J o0 o1 o2 μ' }) (h2 : ∀ o0 o1 o2 μ', J o0 o1 o2 μ' → Φ.nx (((ε.set j0 o0).set j1 o1).set j2 o2) μ') : RS E t ε μ Φ := rs_to _ h1 fun ε' μ' h => by
  obtain ⟨o0, o1, o2, rfl, h⟩ := h
  exact h2 _ _ _ _ h
theorem rs_slot4 (j0 j1 j2 j3 : Nat) (J : Option W → Option W → Option W → Option W → Mu → Prop) (h1 : RS E t ε μ { Φ with nx := fun ε' μ' => ∃ o0 o1 o2 o3, ((((ε.set j0 o0).set j1 o1).set j2 o2).set j3 o3) = ε' ∧ J o0 o1 o2 o3 μ' }) (h2 : ∀ o0 o1 o2 o3 μ', J o0 o1 o2 o3 μ' → Φ.nx ((((ε.set j0 o0).set j1 o1).set j2 o2).set j3 o3) μ') : RS E t ε μ Φ := rs_to _ h1 fun ε' μ' h => by
  obtain ⟨o0, o1, o2, o3, rfl, h⟩ := h
  exact h2 _ _ _ _ _ h
theorem rs_slot5 (j0 j1 j2 j3 j4 : Nat) (J : Option W → Option W → Option W → Option W → Option W → Mu → Prop) (h1 : RS E t ε μ { Φ with nx := fun ε' μ' => ∃ o0 o1 o2 o3 o4, (((((ε.set j0 o0).set j1 o1).set j2 o2).set j3 o3).set j4 o4) = ε' ∧ J o0 o1 o2 o3 o4 μ' }) (h2 : ∀ o0 o1 o2 o3 o4 μ', J o0 o1 o2 o3 o4 μ' → Φ.nx (((((ε.set j0 o0).set j1 o1).set j2 o2).set j3 o3).set j4 o4) μ') : RS E t ε μ Φ := rs_to _ h1 fun ε' μ' h => by
  obtain ⟨o0, o1, o2, o3, o4, rfl, h⟩ := h
  exact h2 _ _ _ _ _ _ h
theorem rs_slot6 (j0 j1 j2 j3 j4 j5 : Nat) (J : Option W → Option W → Option W → Option W → Option W → Option W → Mu → Prop) (h1 : RS E t ε μ { Φ with nx := fun ε' μ' => ∃ o0 o1 o2 o3 o4 o5, ((((((ε.set j0 o0).set j1 o1).set j2 o2).set j3 o3).set j4 o4).set j5 o5) = ε' ∧ J o0 o1 o2 o3 o4 o5 μ' }) (h2 : ∀ o0 o1 o2 o3 o4 o5 μ', J o0 o1 o2 o3 o4 o5 μ' → Φ.nx ((((((ε.set j0 o0).set j1 o1).set j2 o2).set j3 o3).set j4 o4).set j5 o5) μ') : RS E t ε μ Φ := rs_to _ h1 fun ε' μ' h => by
  obtain ⟨o0, o1, o2, o3, o4, o5, rfl, h⟩ := h
  exact h2 _ _ _ _ _ _ _ h
end
theorem zip_range {as bs : List Int} (h : as.length = bs.length) : (List.range as.length).map (fun i => as.getD i 0 + bs.getD i 0) = List.zipWith (· + ·) as bs := by
  apply List.ext_getElem?
  intro i
  rw [List.getElem?_zipWith, List.getElem?_map]
  by_cases hi : i < as.length
  · rw [List.getElem?_range hi, List.getElem?_eq_getElem hi, List.getElem?_eq_getElem (h ▸ hi)]
    show some (as.getD i 0 + bs.getD i 0) = some (as[i] + bs[i])
    rw [getD_of (List.getElem?_eq_getElem hi), getD_of (List.getElem?_eq_getElem (h ▸ hi))]
  · rw [List.getElem?_eq_none (by rw [List.length_range]; omega), List.getElem?_eq_none (show as.length ≤ i by omega)]
    rfl
theorem at_gd {cs : List Int} {i : Nat} (h : i < cs.length) : atI (cs.map D.int) (i : Int) = some (.int (cs.getD i 0)) := by
  have hg : cs[i]? = some cs[i] := List.getElem?_eq_getElem h
  rw [atI_ints hg, getD_of hg]
/-! ### rows as data -/
theorem okI : ∀ cs : List Int, D.okL (cs.map .int) = true
  | [] => rfl
  | c :: cs => by rw [List.map_cons, D.okL, okI cs]; rfl
theorem szI : ∀ cs : List Int, D.szL (cs.map .int) = cs.length
  | [] => rfl
  | c :: cs => by
    have e : (D.int c).sz = 1 := by simp [D.sz]
    rw [List.map_cons, D.szL, szI cs, List.length_cons, e]; omega
theorem int_inj : ∀ {as bs : List Int}, as.map D.int = bs.map D.int → as = bs
  | [], [], _ => rfl
  | [], _ :: _, h => nomatch h
  | _ :: _, [], h => nomatch h
  | a :: as, b :: bs, h => by
    rw [List.map_cons, List.map_cons] at h
    injection h with h1 h2
    injection h1 with h1
    rw [h1, int_inj h2]
/-! ### plain data: None, ints, tuples and lists of such -/
mutual
def D.pl : D → Nat → Bool
  | .non, _ => true
  | .int _, _ => true
  | .tup xs, n + 1 => D.plL xs n
  | .lst xs, n + 1 => D.plL xs n
  | _, _ => false
def D.plL : List D → Nat → Bool
  | [], _ => true
  | d :: r, n => d.pl n && D.plL r n
end
mutual
theorem D.pl_py : ∀ (d : D) (n : Nat), d.pl n = true → d.ok = true ∧ d.py.canLay0 = true ∧ d.py.depth ≤ n
  | .non, n, _ => ⟨rfl, rfl, Nat.zero_le n⟩
  | .int _, n, _ => ⟨rfl, rfl, Nat.zero_le n⟩
  | .tup xs, 0, h => by simp [D.pl] at h
  | .lst xs, 0, h => by simp [D.pl] at h
  | .tup xs, n + 1, h => by
    rw [D.pl] at h
    obtain ⟨h1, h2, h3⟩ := D.plL_py xs n h
    rw [D.ok, D.py, PyData.canLay0, PyData.depth]
    exact ⟨h1, h2, by omega⟩
  | .lst xs, n + 1, h => by
    rw [D.pl] at h
    obtain ⟨h1, h2, h3⟩ := D.plL_py xs n h
    rw [D.ok, D.py, PyData.canLay0, PyData.depth]
    exact ⟨h1, h2, by omega⟩
  | .bl _, _, h => by simp [D.pl] at h
  | .str _, _, h => by simp [D.pl] at h
  | .ty _, _, h => by simp [D.pl] at h
  | .cls _, _, h => by simp [D.pl] at h
  | .exc _ _ _, _, h => by simp [D.pl] at h
theorem D.plL_py : ∀ (ds : List D) (n : Nat), D.plL ds n = true → D.okL ds = true ∧ PyData.canLayAll0 (D.pyL ds) = true ∧ PyData.depthAll (D.pyL ds) ≤ n
  | [], n, _ => ⟨rfl, rfl, Nat.zero_le n⟩
  | d :: r, n, h => by
    rw [D.plL, Bool.and_eq_true] at h
    obtain ⟨h1, h2, h3⟩ := D.pl_py d n h.1
    obtain ⟨h4, h5, h6⟩ := D.plL_py r n h.2
    rw [D.okL, D.pyL, PyData.canLayAll0, PyData.depthAll, h1, h2, h4, h5]
    exact ⟨rfl, rfl, by omega⟩
end
mutual
theorem D.pl_eq : ∀ (a b : D) (n : Nat), a.pl n = true → b.pl n = true → (PyData.eqv a.py b.py = true ↔ a = b)
  | .non, .non, _, _, _ => by simp [D.py, PyData.eqv]
  | .non, .int _, _, _, _ => by simp [D.py, PyData.eqv]
  | .non, .tup _, _, _, _ => by simp [D.py, PyData.eqv]
  | .non, .lst _, _, _, _ => by simp [D.py, PyData.eqv]
  | .int _, .non, _, _, _ => by simp [D.py, PyData.eqv]
  | .int _, .int _, _, _, _ => by simp [D.py, PyData.eqv]
  | .int _, .tup _, _, _, _ => by simp [D.py, PyData.eqv]
  | .int _, .lst _, _, _, _ => by simp [D.py, PyData.eqv]
  | .tup _, .non, _, _, _ => by simp [D.py, PyData.eqv]
  | .tup _, .int _, _, _, _ => by simp [D.py, PyData.eqv]
  | .tup _, .lst _, _, _, _ => by simp [D.py, PyData.eqv]
  | .lst _, .non, _, _, _ => by simp [D.py, PyData.eqv]
  | .lst _, .int _, _, _, _ => by simp [D.py, PyData.eqv]
  | .lst _, .tup _, _, _, _ => by simp [D.py, PyData.eqv]
  | .tup xs, .tup ys, 0, h, _ => by simp [D.pl] at h
  | .lst xs, .lst ys, 0, h, _ => by simp [D.pl] at h
  | .tup xs, .tup ys, n + 1, h, k => by
    rw [D.pl] at h k
    rw [D.py, D.py, PyData.eqv, D.plL_eq xs ys n h k]
    exact ⟨fun e => by rw [e], fun e => by injection e⟩
  | .lst xs, .lst ys, n + 1, h, k => by
    rw [D.pl] at h k
    rw [D.py, D.py, PyData.eqv, D.plL_eq xs ys n h k]
    exact ⟨fun e => by rw [e], fun e => by injection e⟩
  | .bl _, _, _, h, _ => by simp [D.pl] at h
  | .str _, _, _, h, _ => by simp [D.pl] at h
  | .ty _, _, _, h, _ => by simp [D.pl] at h
  | .cls _, _, _, h, _ => by simp [D.pl] at h
  | .exc _ _ _, _, _, h, _ => by simp [D.pl] at h
  | _, .bl _, _, _, h => by simp [D.pl] at h
  | _, .str _, _, _, h => by simp [D.pl] at h
  | _, .ty _, _, _, h => by simp [D.pl] at h
  | _, .cls _, _, _, h => by simp [D.pl] at h
  | _, .exc _ _ _, _, _, h => by simp [D.pl] at h
theorem D.plL_eq : ∀ (as bs : List D) (n : Nat), D.plL as n = true → D.plL bs n = true → (PyData.eqvAll (D.pyL as) (D.pyL bs) = true ↔ as = bs)
  | [], [], _, _, _ => by simp [D.pyL, PyData.eqvAll]
  | [], _ :: _, _, _, _ => by simp [D.pyL, PyData.eqvAll]
  | _ :: _, [], _, _, _ => by simp [D.pyL, PyData.eqvAll]
  | a :: as, b :: bs, n, h, k => by
    rw [D.plL, Bool.and_eq_true] at h k
    rw [D.pyL, D.pyL, PyData.eqvAll, Bool.and_eq_true, D.pl_eq a b n h.1 k.1, D.plL_eq as bs n h.2 k.2]
    exact ⟨fun e => by rw [e.1, e.2], fun e => by injection e with e1 e2; exact ⟨e1, e2⟩⟩
end
theorem D.pl_sh {d : D} {n : Nat} (h : d.pl n = true) (hn : n ≤ 64) : SeqAt.shaped d.py = true := by
  obtain ⟨_, h2, h3⟩ := D.pl_py d n h
  unfold SeqAt.shaped
  rw [h2, Bool.true_and]
  exact decide_eq_true (by omega)
theorem plI : ∀ (cs : List Int) (n : Nat), D.plL (cs.map .int) n = true
  | [], _ => rfl
  | c :: cs, n => by rw [List.map_cons, D.plL, plI cs n, Bool.and_true]; cases n <;> rfl
section
variable {E : En} {μ : Mu} {as bs : List Int} {a b : D} {c : Bool} {P : Prop}
/-- == of plain data -/
theorem vo_eqP (n : Nat) (ha : a.pl n = true) (hb : b.pl n = true) (hc : c = true ↔ a = b) (hn : n ≤ 64 := by decide) : VO E (rEqD E.K) (.dat a) (.dat b) μ (.b c) := vo_eqD (D.pl_py a n ha).1 (D.pl_py b n hb).1 (D.pl_sh ha hn) (D.pl_sh hb hn) (by rw [Bool.eq_iff_iff, D.pl_eq a b n ha hb, hc])
theorem vo_neP (n : Nat) (ha : a.pl n = true) (hb : b.pl n = true) (hc : c = true ↔ a ≠ b) (hn : n ≤ 64 := by decide) : VO E (rNeD E.K) (.dat a) (.dat b) μ (.b c) := vo_neD (D.pl_py a n ha).1 (D.pl_py b n hb).1 (D.pl_sh ha hn) (D.pl_sh hb hn) (by
  have h := D.pl_eq a b n ha hb
  cases e : PyData.eqv a.py b.py
  · rw [e] at h
    have h2 : a ≠ b := fun z => by simp at h; exact h z
    rw [hc.mpr h2]; rfl
  · rw [e] at h
    have h2 : a = b := h.mp rfl
    cases c
    · rfl
    · exact absurd h2 (hc.mp rfl))
theorem vo_eqT : VO E (rEqD E.K) (.dat (.tup (as.map .int))) (.dat (.tup (bs.map .int))) μ (.b (decide (as = bs))) := vo_eqP 1 (by rw [D.pl]; exact plI as 0) (by rw [D.pl]; exact plI bs 0) (by
  rw [decide_eq_true_eq]
  exact ⟨fun e => by rw [e], fun e => by injection e with e; exact int_inj e⟩)
theorem vo_neT : VO E (rNeD E.K) (.dat (.tup (as.map .int))) (.dat (.tup (bs.map .int))) μ (.b (!decide (as = bs))) := vo_neP 1 (by rw [D.pl]; exact plI as 0) (by rw [D.pl]; exact plI bs 0) (by
  rw [Bool.not_eq_true', decide_eq_false_iff_not]
  exact ⟨fun e z => by injection z with z; exact e (int_inj z), fun e z => e (by rw [z])⟩)
theorem vo_eqL : VO E (rEqD E.K) (.dat (.lst (as.map .int))) (.dat (.lst (bs.map .int))) μ (.b (decide (as = bs))) := vo_eqP 1 (by rw [D.pl]; exact plI as 0) (by rw [D.pl]; exact plI bs 0) (by
  rw [decide_eq_true_eq]
  exact ⟨fun e => by rw [e], fun e => by injection e with e; exact int_inj e⟩)
theorem vo_neL : VO E (rNeD E.K) (.dat (.lst (as.map .int))) (.dat (.lst (bs.map .int))) μ (.b (!decide (as = bs))) := vo_neP 1 (by rw [D.pl]; exact plI as 0) (by rw [D.pl]; exact plI bs 0) (by
  rw [Bool.not_eq_true', decide_eq_false_iff_not]
  exact ⟨fun e z => by injection z with z; exact e (int_inj z), fun e z => e (by rw [z])⟩)
end
theorem wide_bd {n : Nat} : ∀ {cs : List Int}, (∀ c ∈ cs, Bd n c) → Bd (n + cs.length) (wide cs)
  | [], _ => ⟨by show (0 : Nat) < _; exact Nat.pow_pos (by decide)⟩
  | c :: cs, h => by
    have h1 := wide_bd (cs := cs) fun x hx => h x (List.mem_cons_of_mem _ hx)
    have h2 := h c List.mem_cons_self
    have h3 : Bd n (c.natAbs : Int) := ⟨by rw [Int.natAbs_natCast]; exact h2.lt⟩
    unfold wide at *
    rw [List.map_cons, List.sum_cons, List.length_cons]
    exact ((h3.up (by omega)).add1 h1).up (by omega)
theorem evL_bd {n m : Nat} {cs : List Int} {x y : Int} (hc : ∀ c ∈ cs, Bd n c) (hx : Bd m x) (hy : Bd m y) : Bd (n + m * cs.length + cs.length + 1) (evL cs x y) := by
  have h := (evP_bd hx hy hc cs.length (Nat.le_refl _)).1
  rw [List.take_length] at h
  exact h
theorem Bd.mulpow {n m : Nat} {a b : Int} (ha : Bd n a) (hb : Bd m b) (k : Nat) : Bd (n + (m * k + 1)) (a * b ^ k) := ha.mul (hb.pow k)
theorem Bd.aff {n : Nat} {i j : Int} (h : Bd n i) (hn : 11 ≤ n) (hj : j.natAbs ≤ 8 * i.natAbs + 1000) : Bd (n + 4) j := ⟨by
  have h1 := h.lt
  have h2 : 2 ^ 11 ≤ 2 ^ n := Nat.pow_le_pow_right (by decide) hn
  have h3 : 2 ^ (n + 4) = 2 ^ n * 16 := Nat.pow_add 2 n 4
  have h4 : (2 : Nat) ^ 11 = 2048 := rfl
  omega⟩
/-- a row of 1 to L coefficients of at most n bits -/
structure Row (L n : Nat) (cs : List Int) : Prop where
  l1 : 1 ≤ cs.length
  l2 : cs.length ≤ L
  b : ∀ c ∈ cs, Bd n c
theorem Bd.one {n : Nat} (h : 1 ≤ n) : Bd n 1 := ⟨by show 1 < 2 ^ n; exact Nat.one_lt_two_pow (by omega)⟩
theorem Bd.abs {n : Nat} {i : Int} (h : Bd n i) : Bd n (i.natAbs : Int) := ⟨by rw [Int.natAbs_natCast]; exact h.lt⟩
theorem Bd.max {n : Nat} {i j : Int} (h : Bd n i) (k : Bd n j) : Bd n (max i j) := by
  rw [Int.max_def]; split
  · exact k
  · exact h
end Sn

/-! Sn: owned lists within tuples; calls that see the owned lists as data; owned lists forgotten, frozen. -/
namespace Sn
open PySem PySem.Spec PyProof.Rows L2 RZ
/-- an owned list within data: its address alone -/
abbrev D.own (l : Addr) : D := .cls l
theorem wr_own {K : PySem.W.Frag} {G : Hp} {v : V} {l : Addr} : Wr K G v (.dat (.own l)) ↔ Wr K G v (.at l) := by
  constructor
  · intro h
    cases (show Dr K G v (.cls l) from h)
    rfl
  · intro h
    have h : v = .ref l := h
    subst h
    exact Dr.cls l
def undatO : List W → List D
  | [] => []
  | .dat d :: r => d :: undatO r
  | .at l :: r => .own l :: undatO r
theorem WrA.datsO {K : PySem.W.Frag} {G : Hp} : ∀ {vs : List V} {ws : List W}, WrA K G vs ws → DrA K G vs (undatO ws)
  | _, _, .nil => .nil
  | _, .dat d :: _, .cons r t => .cons r (WrA.datsO t)
  | _, .at l :: _, .cons r t => .cons (wr_own.mpr r) (WrA.datsO t)
section
variable {E : En} {ε : Ep} {μ : Mu} {tA : TA} {te : TE} {Ψ : W → Mu → Prop} {l : Addr} {ds es : List D} {i : Int} {k : Nat}
/-- a new tuple, owned lists among its items -/
theorem re_tupO (h : RA E tA ε μ fun ws μ1 => (undatO ws).length ≤ sizeLine ∧ Ψ (.dat (.tup (undatO ws))) μ1) : RE E (tTup tA) ε μ Ψ := fun σ G H C X Q k => h σ G H C X _ fun vs ws G1 H1 μ1 S1 s1 rs ⟨hz, q⟩ => by
  have ra := WrA.datsO rs
  refine ⟨by rw [ra.length]; exact hz, fun p hp => ?_⟩
  have hg := S1.gnone hp
  exact k _ (.dat (.tup (undatO ws))) _ _ μ1 (S1.newF hp) (s1.trans (.newF S1 hp)) (Dr.tup (SqT.of upd_same) (ra.up (ex_new hg))) q
/-- its item is the owned list again -/
theorem vo_ixO (h : atI ds i = some (.own l)) : VO E (rIx E.K) (.dat (.tup ds)) (.i i) μ (.at l) := fun G H S v1 v2 r1 r2 Q q => vo_ixT h G H S v1 v2 r1 r2 Q fun v r => q v (wr_own.mp r)
theorem vo_ixLO (h : atI ds i = some (.own l)) : VO E (rIx E.K) (.dat (.lst ds)) (.i i) μ (.at l) := fun G H S v1 v2 r1 r2 Q q => vo_ixL h G H S v1 v2 r1 r2 Q fun v r => q v (wr_own.mp r)
theorem undat_map' : ∀ ds : List D, undat (ds.map .dat) = some ds
  | [] => rfl
  | d :: ds => by rw [List.map_cons, undat, undat_map' ds]; rfl
/-! ### the owned lists as data -/
mutual
inductive Rdd (μ : Mu) : D → D → Prop
  | refl (d : D) : Rdd μ d d
  | own {l : Addr} {ds : List D} : (l, HC.lst (ds.map .dat)) ∈ μ → Rdd μ (.cls l) (.lst ds)
  | tup {ds es : List D} : RddA μ ds es → Rdd μ (.tup ds) (.tup es)
inductive RddA (μ : Mu) : List D → List D → Prop
  | nil : RddA μ [] []
  | cons {d e : D} {ds es : List D} : Rdd μ d e → RddA μ ds es → RddA μ (d :: ds) (e :: es)
end
theorem Hold.all {K : PySem.W.Frag} {G H : Hp} {μ : Mu} (S : Hold K G H μ) : Hold K H H [] := ⟨Evl.Ex.refl H, List.nodup_nil, fun q hq => by cases hq⟩
mutual
theorem Rdd.up {K : PySem.W.Frag} {G H : Hp} {μ : Mu} (S : Hold K G H μ) : ∀ {d e : D} {v : V}, Rdd μ d e → Dr K G v d → Dr K H v e
  | _, _, _, .refl _, r => r.up S.gh
  | _, _, _, .own hm, r => by
    cases r
    obtain ⟨_, o, ho, hc⟩ := S.at_ _ hm
    obtain ⟨xs, rfl, rx⟩ := hc.lst
    exact Dr.lst (SqL.of ho) ((WrA.dats rx).up S.gh)
  | _, _, _, .tup ha, r => by
    cases r with
    | tup h1 h2 => exact Dr.tup (Evl.ex_t S.gh h1) (RddA.up S ha h2)
theorem RddA.up {K : PySem.W.Frag} {G H : Hp} {μ : Mu} (S : Hold K G H μ) : ∀ {ds es : List D} {vs : List V}, RddA μ ds es → DrA K G vs ds → DrA K H vs es
  | _, _, _, .nil, .nil => .nil
  | _, _, _, .cons h t, .cons r s => .cons (Rdd.up S h r) (RddA.up S t s)
end
inductive RdW (μ : Mu) : W → W → Prop
  | dat {d e : D} : Rdd μ d e → RdW μ (.dat d) (.dat e)
  | at {l : Addr} {ds : List D} : (l, HC.lst (ds.map .dat)) ∈ μ → RdW μ (.at l) (.dat (.lst ds))
theorem RdW.same {μ : Mu} {d : D} : RdW μ (.dat d) (.dat d) := .dat (.refl d)
inductive RdWs (μ : Mu) : List W → List W → Prop
  | nil : RdWs μ [] []
  | cons {w u : W} {ws us : List W} : RdW μ w u → RdWs μ ws us → RdWs μ (w :: ws) (u :: us)
theorem RdW.up {K : PySem.W.Frag} {G H : Hp} {μ : Mu} (S : Hold K G H μ) {w u : W} {v : V} (h : RdW μ w u) (r : Wr K G v w) : Wr K H v u := by
  cases h with
  | dat h => exact Rdd.up S h r
  | «at» hm =>
    have r : v = .ref _ := r
    subst r
    obtain ⟨_, o, ho, hc⟩ := S.at_ _ hm
    obtain ⟨xs, rfl, rx⟩ := hc.lst
    exact Dr.lst (SqL.of ho) ((WrA.dats rx).up S.gh)
theorem RdWs.up {K : PySem.W.Frag} {G H : Hp} {μ : Mu} (S : Hold K G H μ) : ∀ {ws us : List W} {vs : List V}, RdWs μ ws us → WrA K G vs ws → WrA K H vs us
  | _, _, _, .nil, .nil => .nil
  | _, _, _, .cons h t, .cons r s => .cons (h.up S r) (RdWs.up S t s)
def D.flat : D → Bool
  | .non => true
  | .bl _ => true
  | .int _ => true
  | .str _ => true
  | _ => false
theorem Dr.flat_up {K : PySem.W.Frag} {G G' : Hp} {v : V} {d : D} (h : Dr K G' v d) (f : d.flat = true) : Dr K G v d := by
  cases h with
  | non => exact .non
  | bl _ => exact .bl _
  | int _ => exact .int _
  | str _ => exact .str _
  | _ => cases f
/-- a call that leaves all as it is and hands back a flat value, all owned lists read as data -/
def CallP (F : FS) (ws : List W) (μ : Mu) (Ψ : W → Mu → Prop) : Prop := ∃ us, RdWs μ ws us ∧ F us [] (fun w _ => ∃ d, w = .dat d ∧ d.flat = true ∧ Ψ w μ) fun _ _ _ => False
theorem re_callP {F : FS} (h : RA E tA ε μ fun ws μ1 => CallP F ws μ1 Ψ) : RE E (tCallS (spF E.K F) (WE E.W) tA) ε μ Ψ := fun σ G H C X Q k =>
  h σ G H C X _ fun vs ws G1 H1 μ1 S1 s1 rs ⟨us, hr, hF⟩ => by
    refine ⟨H1, us, [], _, _, S1.all, hr.up S1 rs, hF, fun v w G' H' μ' S' s' r q => ?_, fun cls d fs G' H' μ' S' s' e q => q.elim⟩
    obtain ⟨d, rfl, f, q⟩ := q
    have kp : Ex H1 H' := fun a o h => s'.keep a o h (by intro z; cases z)
    have S2 : Hold E.K G1 H' μ1 := ⟨S1.gh.trans kp, S1.nd, fun p hp => by
      obtain ⟨h1, o, h2, h3⟩ := S1.at_ p hp
      exact ⟨h1, o, kp _ _ h2, h3⟩⟩
    have s2 : Since μ1 G1 H1 G1 H' μ1 := ⟨Evl.Ex.refl G1, fun a o h _ => kp a o h, fun a h => by
      cases z : H1 a with
      | none => exact absurd z h
      | some o => rw [kp a o z]; simp, fun _ _ _ => rfl, fun p hp => .inl (List.mem_map_of_mem hp)⟩
    exact k v (.dat d) G1 H' μ1 S2 (s1.trans s2) (Dr.flat_up r f) q
/-! ### owned lists forgotten -/
theorem Hold.sub {K : PySem.W.Frag} {G H : Hp} {μ μ' : Mu} (h : μ'.Sublist μ) (S : Hold K G H μ) : Hold K G H μ' :=
  ⟨S.gh, by show (μ'.map (·.1)).Nodup; exact S.nd.sublist (h.map _), fun q hq => S.at_ q (h.subset hq)⟩
theorem Since.subE {μ0 μ μ' : Mu} {G0 H0 G H : Hp} (h : μ'.Sublist μ) (s : Since μ0 G0 H0 G H μ) : Since μ0 G0 H0 G H μ' := ⟨s.gg, s.keep, s.there, s.new, fun p hp => s.own p (h.subset hp)⟩
theorem Since.subS {μ0 μ μ' : Mu} {G0 H0 G H : Hp} (h : μ'.Sublist μ0) (s : Since μ' G0 H0 G H μ) : Since μ0 G0 H0 G H μ where
  gg := s.gg
  keep := fun a o ha m => s.keep a o ha fun z => m (by
    obtain ⟨q, hq, e⟩ := List.mem_map.mp z
    exact e ▸ List.mem_map_of_mem (h.subset hq))
  there := s.there
  new := fun a ha m => s.new a ha fun z => m (by
    obtain ⟨q, hq, e⟩ := List.mem_map.mp z
    exact e ▸ List.mem_map_of_mem (h.subset hq))
  own := fun q hq => by
    rcases s.own q hq with z | z
    · left
      obtain ⟨r, hr, e⟩ := List.mem_map.mp z
      exact e ▸ List.mem_map_of_mem (h.subset hr)
    · exact .inr z
theorem re_sub (h : RE E te ε μ fun w μ' => ∃ μ'', μ''.Sublist μ' ∧ Ψ w μ'') : RE E te ε μ Ψ := fun σ G H C X Q k => h σ G H C X Q fun v w G' H' μ' S s r ⟨μ'', hs, q⟩ => k v w G' H' μ'' (S.sub hs) (s.subE hs) r q
theorem rs_sub {t : TS} {Φ : Fi} (μ' : Mu) (hs : μ'.Sublist μ) (h : RS E t ε μ' Φ) : RS E t ε μ Φ := fun σ G H C X D T =>
  h σ G H ⟨C.hold.sub hs, C.slots⟩ (fun σ ε G' H' μ' cls d fs S' s' e q => X σ ε G' H' μ' cls d fs S' (s'.subS hs) e q) D
    ⟨fun σ' ε' G' H' μ' S s q => T.nx σ' ε' G' H' μ' S (s.subS hs) q, fun v w G' H' μ' S s r q => T.rt v w G' H' μ' S (s.subS hs) r q, fun σ' ε' G' H' μ' S s q => T.bk σ' ε' G' H' μ' S (s.subS hs) q, fun σ' ε' G' H' μ' S s q => T.ct σ' ε' G' H' μ' S (s.subS hs) q⟩
theorem Since.frz {K : PySem.W.Frag} {μ0 μ : Mu} {G0 H0 G H : Hp} {k : Nat} {l : Addr} {ws : List W} {xs : List V} (s : Since μ0 G0 H0 G H μ) (S : Hold K G H μ) (hk : μ[k]? = some (l, .lst ws)) : Since μ0 G0 H0 (upd G l (.lst xs)) H (μ.eraseIdx k) where
  gg := s.gg.trans (ex_new (S.own hk).1)
  keep := s.keep
  there := s.there
  new := fun a ha hm => by
    have n : a ≠ l := fun e => by
      subst e
      rcases s.own _ (mu_mem hk) with z | z
      · exact hm z
      · exact ha z
    rw [upd_ne n]
    exact s.new a ha hm
  own := fun p hp => s.own p (List.mem_of_mem_eraseIdx hp)
/-- an owned list of data, told, is frozen -/
theorem re_frz (h : RE E te ε μ fun w μ' => ∃ (k : Nat) (l : Addr) (ds : List D), w = .at l ∧ μ'[k]? = some (l, .lst (ds.map .dat)) ∧ Ψ (.dat (.lst ds)) (μ'.eraseIdx k)) : RE E te ε μ Ψ := fun σ G H C X Q kq => h σ G H C X Q fun v w G' H' μ' S s r ⟨k, l, ds, e, hk, q⟩ => by
  subst e
  have r : v = .ref l := r
  subst r
  obtain ⟨hg, xs, hx, rx⟩ := S.lst hk
  exact kq _ (.dat (.lst ds)) _ _ _ (S.frz hk hx) (s.frz S hk) (Dr.lst (SqL.of upd_same) ((WrA.dats rx).up (ex_new hg))) q
theorem Rdd.frz {K : PySem.W.Frag} {G : Hp} {l : Addr} {xs : List V} {ds : List D} (hg : G l = none) (ra : DrA K G xs ds) : ∀ {d e : D} {v : V}, Rdd [(l, .lst (ds.map .dat))] d e → Dr K G v d → Dr K (upd G l (.lst xs)) v e := fun {d e v} h r => by
  have ex : Ex G (upd G l (.lst xs)) := ex_new hg
  have S : Hold K (upd G l (.lst xs)) (upd G l (.lst xs)) [] := (show Hold K (upd G l (.lst xs)) (upd G l (.lst xs)) [] from ⟨Evl.Ex.refl _, List.nodup_nil, fun q hq => by cases hq⟩)
  have go : ∀ {d e : D} {v : V}, Rdd [(l, HC.lst (ds.map .dat))] d e → Dr K G v d → Dr K (upd G l (.lst xs)) v e := by
    intro d e v h r
    exact Rdd.rec (motive_1 := fun d e _ => ∀ v, Dr K G v d → Dr K (upd G l (.lst xs)) v e) (motive_2 := fun ds es _ => ∀ vs, DrA K G vs ds → DrA K (upd G l (.lst xs)) vs es)
      (fun d v r => r.up ex)
      (fun {l' ds'} hm v r => by
        cases r
        have e := List.mem_singleton.mp hm
        injection e with e1 e2
        injection e2 with e3
        subst e1
        have e4 : ds' = ds := by
          have := congrArg undat e3
          rw [undat_map', undat_map'] at this
          injection this
        subst e4
        exact Dr.lst (SqL.of upd_same) (ra.up ex))
      (fun {ds' es'} _ ih v r => by
        cases r with
        | tup h1 h2 => exact Dr.tup (Evl.ex_t ex h1) (ih _ h2))
      (fun vs r => by cases r; exact .nil)
      (fun _ _ ih1 ih2 vs r => by
        cases r with
        | cons r1 r2 => exact .cons (ih1 _ r1) (ih2 _ r2))
      h v r
  exact go h r
/-- .. within data -/
theorem re_frzD (h : RE E te ε μ fun w μ' => ∃ (k : Nat) (l : Addr) (ds : List D) (d e : D), w = .dat d ∧ μ'[k]? = some (l, .lst (ds.map .dat)) ∧ Rdd [(l, .lst (ds.map .dat))] d e ∧ Ψ (.dat e) (μ'.eraseIdx k)) : RE E te ε μ Ψ := fun σ G H C X Q kq => h σ G H C X Q fun v w G' H' μ' S s r ⟨k, l, ds, d, e, ew, hk, hr, q⟩ => by
  subst ew
  obtain ⟨hg, xs, hx, rx⟩ := S.lst hk
  exact kq v (.dat e) _ _ _ (S.frz hk hx) (s.frz S hk) (Rdd.frz hg (WrA.dats rx) hr r) q
/-- .. in a slot -/
theorem rs_frz {t : TS} {Φ : Fi} {k j : Nat} {l : Addr} {ds : List D} {w : W} {d : D} (hk : μ[k]? = some (l, .lst (ds.map .dat))) (hj : ε[j]? = some (some w)) (hr : RdW [(l, .lst (ds.map .dat))] w (.dat d)) (h : RS E t (ε.set j (some (.dat d))) (μ.eraseIdx k) Φ) : RS E t ε μ Φ := fun σ G H C X D T => by
  obtain ⟨hg, xs, hx, rx⟩ := C.hold.lst hk
  have ex : Ex G (upd G l (.lst xs)) := ex_new hg
  have s0 : Since μ G H (upd G l (.lst xs)) H (μ.eraseIdx k) := (Since.refl μ G H).frz C.hold hk
  have sl : Slots E.K (upd G l (.lst xs)) σ (ε.set j (some (.dat d))) := by
    refine ⟨by rw [List.length_set, C.slots.len], fun i u hu => ?_⟩
    by_cases e : j = i
    · subst e
      rw [List.getElem?_set, if_pos rfl] at hu
      split at hu
      · cases hu
        obtain ⟨v, h1, h2⟩ := C.slots.at_ j w hj
        refine ⟨v, h1, ?_⟩
        cases hr with
        | dat hr => exact Rdd.frz hg (WrA.dats rx) hr h2
        | «at» hm =>
          have h2 : v = .ref _ := h2
          subst h2
          have e := List.mem_singleton.mp hm
          injection e with e1 e2
          injection e2 with e3
          subst e1
          have e4 := congrArg undat e3
          rw [undat_map', undat_map'] at e4
          injection e4 with e4
          subst e4
          exact Dr.lst (SqL.of upd_same) ((WrA.dats rx).up ex)
      · cases hu
    · rw [List.getElem?_set_ne e] at hu
      obtain ⟨v, h1, h2⟩ := C.slots.at_ i u hu
      exact ⟨v, h1, h2.up ex⟩
  exact h σ _ H ⟨C.hold.frz hk hx, sl⟩ (X.to s0) D (T.to s0)
/-! ### more of owned lists -/
/-- a + b, both owned: a new owned list -/
theorem ro_catO {ka kb : Nat} {la lb : Addr} {xs ys : List W} (ha : μ[ka]? = some (la, .lst xs)) (hb : μ[kb]? = some (lb, .lst ys)) (hz : xs.length + ys.length ≤ sizeLine) (q : ∀ p, Ψ (.at p) ((p, .lst (xs ++ ys)) :: μ)) : RO E rCat (.at la) (.at lb) μ Ψ := fun G H S v1 v2 r1 r2 Q k => by
  cases r1; cases r2
  obtain ⟨_, us, hu, ru⟩ := S.lst ha
  obtain ⟨_, vs, hv, rv⟩ := S.lst hb
  refine ⟨la, lb, us, vs, rfl, rfl, hu, hv, by rw [Paired.length ru, Paired.length rv]; exact hz, fun p hp => ?_⟩
  have app : ∀ {us : List V} {xs : List W}, WrA E.K G us xs → WrA E.K G (us ++ vs) (xs ++ ys) := by
    intro us xs h
    induction h with
    | nil => exact rv
    | cons r _ ih => exact .cons r ih
  exact k _ (.at p) _ _ _ (S.newO (c := .lst (xs ++ ys)) hp (show WrA _ _ _ _ from app ru)) (.newO S hp) rfl (q p)
/-- a slice of an owned list of data, frozen -/
theorem rsl_own {lo hi : Option Int} (hk : μ[k]? = some (l, .lst (ds.map .dat))) (q : Ψ (.dat (.lst (cutD ds lo hi))) μ) : RSl E (rSlL E.K) (.at l) lo hi μ Ψ := fun G H S v r Q kq => by
  have r : v = .ref l := r
  subst r
  obtain ⟨_, xs, hx, rx⟩ := S.lst hk
  refine ⟨l, xs, rfl, SqL.of hx, fun p hp => ?_⟩
  have hg := S.gnone hp
  exact kq _ (.dat (.lst (cutD ds lo hi))) _ _ μ (S.newF hp) (.newF S hp) (Dr.lst (SqL.of upd_same) (((WrA.dats rx).cut lo hi).up (ex_new hg))) q
/-- a slice of a frozen list, owned -/
theorem rsl_lstO {lo hi : Option Int} (q : ∀ p, Ψ (.at p) ((p, .lst ((cutD ds lo hi).map .dat)) :: μ)) : RSl E (rSlL E.K) (.dat (.lst ds)) lo hi μ Ψ := fun G H S v r Q k => by
  cases r with
  | @lst a xs _ hs ha =>
    refine ⟨a, xs, rfl, Evl.ex_l S.gh hs, fun p hp => ?_⟩
    exact k _ (.at p) _ _ _ (S.newO (c := .lst ((cutD ds lo hi).map .dat)) hp (show WrA _ _ _ _ from (ha.cut lo hi).ws)) (.newO S hp) rfl (q p)
/-- l.reverse(), l.clear() -/
theorem rs_clear {ta : TE} {Φ : Fi} {ws : List W} (va : VE E ta ε μ (.at l)) (hk : μ[k]? = some (l, .lst ws)) (q : Φ.nx ε (μ.set k (l, .lst []))) : RS E (tDrop (tBM0 E.K "list" rClear ta)) ε μ Φ := rs_drop fun σ G H C X Q kq => va σ G H C _ fun v1 r1 => by
  cases r1
  obtain ⟨_, xs, hx, rx⟩ := C.hold.lst hk
  refine ⟨Or.inl ⟨rfl, xs, SqL.of hx⟩, l, xs, rfl, rfl, hx, ?_⟩
  exact kq .non .n G _ _ (C.hold.write (o := .lst []) (c' := .lst []) hk (show WrA _ _ [] [] from .nil)) (.write C.hold hk) Dr.non q
theorem WrA.rev {K : PySem.W.Frag} {G : Hp} : ∀ {vs : List V} {ws : List W}, WrA K G vs ws → WrA K G vs.reverse ws.reverse
  | _, _, .nil => .nil
  | _, _, .cons r t => by rw [List.reverse_cons, List.reverse_cons]; exact WrA.snoc r (WrA.rev t)
theorem rs_reverse {ta : TE} {Φ : Fi} {ws : List W} (va : VE E ta ε μ (.at l)) (hk : μ[k]? = some (l, .lst ws)) (q : Φ.nx ε (μ.set k (l, .lst ws.reverse))) : RS E (tDrop (tBM0 E.K "list" rReverse ta)) ε μ Φ := rs_drop fun σ G H C X Q kq => va σ G H C _ fun v1 r1 => by
  cases r1
  obtain ⟨_, xs, hx, rx⟩ := C.hold.lst hk
  refine ⟨Or.inl ⟨rfl, xs, SqL.of hx⟩, l, xs, rfl, rfl, hx, ?_⟩
  exact kq .non .n G _ _ (C.hold.write (o := .lst xs.reverse) (c' := .lst ws.reverse) hk (show WrA _ _ _ _ from WrA.rev rx)) (.write C.hold hk) Dr.non q
theorem vc_isiO {n : String} {b : Bool} (hm : μ[k]? = some (l, .lst (ds.map .dat))) (h : kitB "list" n = some b) : VC E (rIsi E.K) [.at l, .dat (.ty n)] μ (.b b) := vc_isiA hm h
end
theorem unset_own (ws : List W) (l : Addr) : undatO (.at l :: ws) = .own l :: undatO ws := rfl
/-! ### a look at the owned lists as data -/
abbrev En.no (E : En) : En := ⟨E.K, E.W, fun _ _ _ _ => False⟩
theorem xok_no {E : En} {μ : Mu} {G H : Hp} : XOk E.no μ G H := fun _ _ _ _ _ _ _ _ _ _ _ z => z.elim
theorem Slots.view {K : PySem.W.Frag} {G H : Hp} {σ : L2.St} {ε : Ep} {μ : Mu} (S : Hold K G H μ) (h : Slots K G σ ε) {j : Nat} {w : W} {d : D} (hj : ε[j]? = some (some w)) (hr : RdW μ w (.dat d)) : Slots K H σ (ε.set j (some (.dat d))) := by
  refine ⟨by rw [List.length_set, h.len], fun i u hu => ?_⟩
  by_cases e : j = i
  · subst e
    rw [List.getElem?_set, if_pos rfl] at hu
    split at hu
    · cases hu
      obtain ⟨v, h1, h2⟩ := h.at_ j w hj
      exact ⟨v, h1, hr.up S h2⟩
    · cases hu
  · rw [List.getElem?_set_ne e] at hu
    obtain ⟨v, h1, h2⟩ := h.at_ i u hu
    exact ⟨v, h1, h2.up S.gh⟩
theorem Hold.seen {K : PySem.W.Frag} {G H G' H' : Hp} {μ μ' : Mu} (S : Hold K G H μ) (s : Since [] H H G' H' μ') : Hold K G H' μ ∧ Since μ G H G H' μ := by
  have kp : Ex H H' := fun a o h => s.keep a o h (by intro z; cases z)
  refine ⟨⟨S.gh.trans kp, S.nd, fun p hp => ?_⟩, ⟨Evl.Ex.refl G, fun a o h _ => kp a o h, fun a h => ?_, fun _ _ _ => rfl, fun p hp => .inl (List.mem_map_of_mem hp)⟩⟩
  · obtain ⟨h1, o, h2, h3⟩ := S.at_ p hp
    exact ⟨h1, o, kp _ _ h2, h3⟩
  · cases z : H a with
    | none => exact absurd z h
    | some o => rw [kp a o z]; simp
section
variable {E : En} {ε : Ep} {μ : Mu} {te : TE} {tt : TT} {w : W} {tA : TA}
theorem re_view {Ψ : W → Mu → Prop} (j : Nat) (d : D) (hj : ε[j]? = some (some w)) (hr : RdW μ w (.dat d)) (h : RE E.no te (ε.set j (some (.dat d))) [] fun w _ => ∃ d, w = .dat d ∧ d.flat = true ∧ Ψ w μ) : RE E te ε μ Ψ := fun σ G H C X Q k =>
  h σ H H ⟨C.hold.all, C.slots.view C.hold hj hr⟩ xok_no Q fun v w G' H' μ' S' s' r ⟨d, e, f, q⟩ => by
    subst e
    obtain ⟨S2, s2⟩ := C.hold.seen s'
    exact k v (.dat d) G H' μ S2 s2 (Dr.flat_up r f) q
theorem rt_view {Ψ : Bool → Mu → Prop} (j : Nat) (d : D) (hj : ε[j]? = some (some w)) (hr : RdW μ w (.dat d)) (h : RT E.no tt (ε.set j (some (.dat d))) [] fun b _ => Ψ b μ) : RT E tt ε μ Ψ := fun σ G H C X Q k =>
  h σ H H ⟨C.hold.all, C.slots.view C.hold hj hr⟩ xok_no Q fun b G' H' μ' S' s' q => by
    obtain ⟨S2, s2⟩ := C.hold.seen s'
    exact k b G H' μ S2 s2 q
/-- a new tuple, owned lists among its items -/
def undatQ : List W → Option (List D)
  | [] => some []
  | .dat d :: r => (undatQ r).map (d :: ·)
  | .at l :: r => (undatQ r).map (.own l :: ·)
theorem undatQ_eq : ∀ ws : List W, undatQ ws = some (undatO ws)
  | [] => rfl
  | .dat d :: r => by rw [undatQ, undatQ_eq r]; rfl
  | .at l :: r => by rw [undatQ, undatQ_eq r]; rfl
def DTo (ws : List W) (μ : Mu) (Ψ : W → Mu → Prop) : Prop := ∃ ds, undatQ ws = some ds ∧ ds.length ≤ sizeLine ∧ Ψ (.dat (.tup ds)) μ
theorem re_tupN {Ψ : W → Mu → Prop} (h : RA E tA ε μ fun ws μ1 => DTo ws μ1 Ψ) : RE E (tTup tA) ε μ Ψ := re_tupO fun σ G H C X Q k => h σ G H C X Q fun vs ws G1 H1 μ1 S1 s1 rs ⟨ds, e, hz, q⟩ => by
  rw [undatQ_eq] at e
  cases e
  exact k vs ws G1 H1 μ1 S1 s1 rs ⟨hz, q⟩
theorem dt_o {ws : List W} {Ψ : W → Mu → Prop} {ds : List D} (hu : undatQ ws = some ds) (hz : ds.length ≤ sizeLine) (q : Ψ (.dat (.tup ds)) μ) : DTo ws μ Ψ := ⟨ds, hu, hz, q⟩
end
/-- what is told, an owned list -/
theorem rd_told {μ : Mu} {x : Str} {l : Addr} {ds : List D} (h : (l, HC.lst (ds.map .dat)) ∈ μ) : RdW μ (.dat (.tup [.str x, .own l])) (.dat (.tup [.str x, .lst ds])) := .dat (.tup (.cons (.refl _) (.cons (.own h) .nil)))
end Sn

/-! Sn: ranges with a step; primes, Euclid's inverse, arithmetic rows, in plain Lean. -/
namespace Sn
open PySem PySem.Spec PyProof.Rows L2 RZ
/-- how many numbers stand in range(lo, hi, c) -/
def cnt (lo hi c : Int) : Nat := if lo < hi then ((hi - lo - 1) / c + 1).toNat else 0
theorem cnt_lt {lo hi c : Int} (hc : 0 < c) (k : Nat) : k < cnt lo hi c ↔ lo + (k : Int) * c < hi := by
  unfold cnt
  split
  · rename_i h
    have h0 : 0 ≤ (hi - lo - 1) / c := Int.ediv_nonneg (by omega) (by omega)
    have h1 : (k : Int) ≤ (hi - lo - 1) / c ↔ (k : Int) * c ≤ hi - lo - 1 := Int.le_ediv_iff_mul_le hc
    constructor
    · intro hk
      have := h1.mp (by omega)
      omega
    · intro hk
      have := h1.mpr (by omega)
      omega
  · rename_i h
    have : 0 ≤ (k : Int) * c := Int.mul_nonneg (by omega) (by omega)
    omega
def rgs (lo c : Int) (n : Nat) : List D := (List.range n).map fun k : Nat => D.int (lo + (k : Int) * c)
theorem rgs_length (lo c : Int) (n : Nat) : (rgs lo c n).length = n := by simp [rgs]
theorem rgs_at {lo c : Int} {n i : Nat} (h : i < n) : (rgs lo c n)[i]? = some (.int (lo + (i : Int) * c)) := by simp [rgs, h]
theorem rgC_pos {lo hi c : Int} (hc : 0 < c) (hc2 : c < 1073741824) (h1 : -(2 ^ 60) ≤ lo) (h2 : lo < 2 ^ 60) (h3 : -(2 ^ 60) ≤ hi) (h4 : hi < 2 ^ 60) : RgC lo hi c (cnt lo hi c) := by
  have e : Builtin.Range.rangeSize lo hi c = (cnt lo hi c : Nat) := by
    unfold Builtin.Range.rangeSize cnt
    rw [if_pos hc]
    split
    · have h0 : 0 ≤ (hi - lo - 1) / c := Int.ediv_nonneg (by omega) (by omega)
      omega
    · rfl
  have hs : Builtin.Range.rangeSize lo hi c ≤ 2 ^ 61 := by
    unfold Builtin.Range.rangeSize
    rw [if_pos hc]
    split
    · have h0 : (hi - lo - 1) / c ≤ hi - lo - 1 := Int.ediv_le_self _ (by omega)
      omega
    · decide
  have hs0 : 0 ≤ Builtin.Range.rangeSize lo hi c := by rw [e]; omega
  refine ⟨by omega, by omega, ?_, e⟩
  unfold Builtin.Range.small
  generalize Builtin.Range.rangeSize lo hi c = z at hs hs0
  simp only [Builtin.Range.rangeFitsLong, Bool.and_eq_true, Bool.or_eq_true, decide_eq_true_eq, beq_iff_eq, if_pos hc]
  omega
section
variable {E : En} {ε : Ep} {μ : Mu} {tA : TA} {Ψ : List D → Mu → Prop}
theorem ri_rng3 (h : RA E tA ε μ fun ws μ1 => ∃ lo hi c : Int, ws = [.i lo, .i hi, .i c] ∧ (0 < c ∧ c < 1073741824 ∧ -(2 ^ 60) ≤ lo ∧ lo < 2 ^ 60 ∧ -(2 ^ 60) ≤ hi ∧ hi < 2 ^ 60) ∧ Ψ (rgs lo c (cnt lo hi c)) μ1) : RI E (iRng3 tA) ε μ Ψ := fun σ G H C X R k => h σ G H C X _ fun vs ws G1 H1 μ1 S1 s1 rs ⟨lo, hi, c, e, ⟨c1, c2, b1, b2, b3, b4⟩, q⟩ => by
  subst e
  cases rs with
  | cons r r2 => cases r2 with
    | cons r3 r4 => cases r4 with
      | cons r5 r6 =>
        cases r; cases r3; cases r5; cases r6
        refine ⟨lo, hi, c, _, rfl, rgC_pos c1 c2 b1 b2 b3 b4, ?_⟩
        refine k (Itc lo c _) (rgs lo c (cnt lo hi c)) (fun _ => True) (YFn fun i => .int (lo + (i : Nat) * c)) G1 H1 μ1 S1 s1 (by rw [rgs_length]; exact walk_rangeC) (fun _ _ => trivial) (fun i H' x H'' G' μ' S' e' hi' y => ?_) q
        obtain ⟨rfl, rfl⟩ := y
        rw [rgs_length] at hi'
        exact ⟨G', _, S', .refl μ' G' _, rgs_at hi', Dr.int _⟩
/-- range(lo, hi, -1) -/
def rgd (lo : Int) (n : Nat) : List D := (List.range n).map fun k : Nat => D.int (lo - (k : Int))
theorem rgd_length (lo : Int) (n : Nat) : (rgd lo n).length = n := by simp [rgd]
theorem rgd_at {lo : Int} {n i : Nat} (h : i < n) : (rgd lo n)[i]? = some (.int (lo - (i : Int))) := by simp [rgd, h]
theorem ri_rngD (h : RA E tA ε μ fun ws μ1 => ∃ lo hi : Int, ws = [.i lo, .i hi, .i (-1)] ∧ (-(2 ^ 62) ≤ lo ∧ lo < 2 ^ 62 ∧ -(2 ^ 62) ≤ hi ∧ hi < 2 ^ 62) ∧ Ψ (rgd lo (lo - hi).toNat) μ1) : RI E (iRng3 tA) ε μ Ψ := fun σ G H C X R k => h σ G H C X _ fun vs ws G1 H1 μ1 S1 s1 rs ⟨lo, hi, e, ⟨b1, b2, b3, b4⟩, q⟩ => by
  subst e
  cases rs with
  | cons r r2 => cases r2 with
    | cons r3 r4 => cases r4 with
      | cons r5 r6 =>
        cases r; cases r3; cases r5; cases r6
        refine ⟨lo, hi, -1, _, rfl, RgC.neg b1 b2 b3 b4, ?_⟩
        refine k (Itc lo (-1) _) (rgd lo (lo - hi).toNat) (fun _ => True) (YFn fun i => .int (lo + (i : Nat) * (-1))) G1 H1 μ1 S1 s1 (by rw [rgd_length]; exact walk_rangeC) (fun _ _ => trivial) (fun i H' x H'' G' μ' S' e' hi' y => ?_) q
        obtain ⟨rfl, rfl⟩ := y
        rw [rgd_length] at hi'
        refine ⟨G', _, S', .refl μ' G' _, rgd_at hi', ?_⟩
        show Dr E.K G' (.int (lo + (i : Int) * (-1))) _
        rw [show lo + (i : Int) * (-1) = lo - (i : Int) by omega]
        exact Dr.int _
end
/-! ### sorted rows are known by their items -/
theorem sorted_ext : ∀ {as bs : List Int}, as.Pairwise (· < ·) → bs.Pairwise (· < ·) → (∀ x, x ∈ as ↔ x ∈ bs) → as = bs
  | [], [], _, _, _ => rfl
  | [], b :: bs, _, _, h => absurd ((h b).mpr List.mem_cons_self) (by simp)
  | a :: as, [], _, _, h => absurd ((h a).mp List.mem_cons_self) (by simp)
  | a :: as, b :: bs, ha, hb, h => by
    obtain ⟨ha1, ha2⟩ := List.pairwise_cons.mp ha
    obtain ⟨hb1, hb2⟩ := List.pairwise_cons.mp hb
    have e : a = b := by
      rcases List.mem_cons.mp ((h a).mp List.mem_cons_self) with z | z
      · exact z
      · rcases List.mem_cons.mp ((h b).mpr List.mem_cons_self) with y | y
        · exact y.symm
        · have := ha1 b y
          have := hb1 a z
          omega
    subst e
    rw [sorted_ext ha2 hb2 fun x => ?_]
    constructor
    · intro hx
      rcases List.mem_cons.mp ((h x).mp (List.mem_cons_of_mem _ hx)) with z | z
      · subst z; have := ha1 _ hx; omega
      · exact z
    · intro hx
      rcases List.mem_cons.mp ((h x).mpr (List.mem_cons_of_mem _ hx)) with z | z
      · subst z; have := hb1 _ hx; omega
      · exact z
/-- lo, lo + c, .. below hi -/
def prog (lo hi c : Int) : List Int := (List.range (cnt lo hi c)).map fun k : Nat => lo + (k : Int) * c
theorem rgs_prog (lo hi c : Int) : rgs lo c (cnt lo hi c) = (prog lo hi c).map .int := by
  unfold rgs prog
  rw [List.map_map]
  rfl
theorem prog_mem {lo hi c x : Int} (hc : 0 < c) : x ∈ prog lo hi c ↔ lo ≤ x ∧ x < hi ∧ c ∣ x - lo := by
  unfold prog
  rw [List.mem_map]
  constructor
  · rintro ⟨k, hk, rfl⟩
    have h1 := (cnt_lt hc k).mp (List.mem_range.mp hk)
    have h2 : 0 ≤ (k : Int) * c := Int.mul_nonneg (by omega) (by omega)
    exact ⟨by omega, h1, ⟨k, by rw [Int.mul_comm c]; omega⟩⟩
  · rintro ⟨h1, h2, q, hq⟩
    have hq0 : 0 ≤ q := by
      rcases Int.lt_or_le q 0 with z | z
      · have := Int.mul_neg_of_pos_of_neg hc z; omega
      · exact z
    refine ⟨q.toNat, List.mem_range.mpr ((cnt_lt hc _).mpr ?_), ?_⟩
    · rw [Int.toNat_of_nonneg hq0, Int.mul_comm]; omega
    · rw [Int.toNat_of_nonneg hq0, Int.mul_comm]; omega
theorem prog_sorted {lo hi c : Int} (hc : 0 < c) : (prog lo hi c).Pairwise (· < ·) := by
  unfold prog
  rw [List.pairwise_map]
  refine List.Pairwise.imp (fun {a b} h => ?_) List.pairwise_lt_range
  have : (a : Int) * c < (b : Int) * c := Int.mul_lt_mul_of_pos_right (by omega) hc
  omega
theorem prog_length_le {lo hi c : Int} (hc : 0 < c) : (prog lo hi c).length ≤ (hi - lo).toNat := by
  unfold prog
  rw [List.length_map, List.length_range]
  by_cases h : cnt lo hi c ≤ (hi - lo).toNat
  · exact h
  · have h1 := (cnt_lt (lo := lo) (hi := hi) hc (hi - lo).toNat).mp (by omega)
    have h2 : ((hi - lo).toNat : Int) * 1 ≤ ((hi - lo).toNat : Int) * c := Int.mul_le_mul_of_nonneg_left (by omega) (by omega)
    omega
theorem prog_one (n : Nat) : prog 0 (n : Int) 1 = (List.range n).map fun i : Nat => (i : Int) := by
  have hc : cnt 0 (n : Int) 1 = n := by
    unfold cnt
    split
    · rw [Int.ediv_one]; omega
    · omega
  unfold prog
  rw [hc]
  refine List.map_congr_left fun i _ => by omega
theorem filter_prog {lo hi c lo' hi' c' : Int} {p : Int → Bool} (hc : 0 < c) (hc' : 0 < c') (h : ∀ x, (lo ≤ x ∧ x < hi ∧ c ∣ x - lo) ∧ p x = true ↔ lo' ≤ x ∧ x < hi' ∧ c' ∣ x - lo') : (prog lo hi c).filter p = prog lo' hi' c' :=
  sorted_ext ((prog_sorted hc).sublist List.filter_sublist) (prog_sorted hc') fun x => by
    rw [List.mem_filter, prog_mem hc, prog_mem hc']
    exact h x
theorem filter_nil {xs : List Int} {p : Int → Bool} (h : ∀ x ∈ xs, p x = false) : xs.filter p = [] := by
  rw [List.filter_eq_nil_iff]
  intro x hx
  rw [h x hx]
  exact Bool.false_ne_true
/-! ### primes -/
def IsP (n : Int) : Prop := 2 ≤ n ∧ ∀ d, 2 ≤ d → d < n → ¬ d ∣ n
theorem isP_of_below {n : Int} (h2 : 2 ≤ n) (k : Int) (k0 : 0 ≤ k) (hk : n < k * k) (h : ∀ e, 2 ≤ e → e < k → ¬ e ∣ n) : IsP n := by
  refine ⟨h2, fun d hd hn hdv => ?_⟩
  obtain ⟨q, hq⟩ := hdv
  have q2 : 2 ≤ q := by
    rcases Int.lt_or_le q 2 with z | z
    · exfalso
      rcases Int.lt_or_le q 1 with y | y
      · have := Int.mul_le_mul_of_nonneg_left (show q ≤ 0 by omega) (show 0 ≤ d by omega)
        omega
      · have : q = 1 := by omega
        subst this
        omega
    · exact z
  rcases Int.lt_or_le d k with z | z
  · exact h d hd z ⟨q, hq⟩
  · rcases Int.lt_or_le q k with y | y
    · exact h q q2 y ⟨d, by rw [Int.mul_comm]; exact hq⟩
    · have := Int.mul_le_mul z y (by omega) (by omega)
      omega
/-- a decision of it -/
def primeB (n : Nat) : Bool := decide (2 ≤ n) && (List.range n).all fun d => decide (d < 2) || decide (n % d ≠ 0)
theorem primeB_iff {n : Nat} : primeB n = true ↔ IsP (n : Int) := by
  unfold primeB IsP
  rw [Bool.and_eq_true, decide_eq_true_eq, List.all_eq_true]
  constructor
  · rintro ⟨h1, h2⟩
    refine ⟨by omega, fun d hd hn hdv => ?_⟩
    have h3 := h2 d.toNat (List.mem_range.mpr (by omega))
    rw [Bool.or_eq_true, decide_eq_true_eq, decide_eq_true_eq] at h3
    rcases h3 with h3 | h3
    · omega
    · apply h3
      have h4 : ((d.toNat : Nat) : Int) ∣ (n : Int) := by rw [Int.toNat_of_nonneg (by omega)]; exact hdv
      exact Nat.mod_eq_zero_of_dvd (Int.natCast_dvd_natCast.mp h4)
  · rintro ⟨h1, h2⟩
    refine ⟨by omega, fun d hd => ?_⟩
    rw [Bool.or_eq_true, decide_eq_true_eq, decide_eq_true_eq]
    rcases Nat.lt_or_ge d 2 with z | z
    · exact .inl z
    · right
      intro e
      exact h2 d (by omega) (by have := List.mem_range.mp hd; omega) (Int.natCast_dvd_natCast.mpr (Nat.dvd_of_mod_eq_zero e))
theorem isP_dec {n : Nat} (h : primeB n = true) : IsP (n : Int) := primeB_iff.mp h
theorem not_isP_dec {n : Nat} (h : primeB n = false) : ¬ IsP (n : Int) := fun z => by rw [primeB_iff.mpr z] at h; cases h
theorem even_no {n e : Int} (h : n % 2 ≠ 0) (he : e % 2 = 0) : ¬ e ∣ n := fun ⟨q, hq⟩ => by
  obtain ⟨k, rfl⟩ : ∃ k, e = 2 * k := ⟨e / 2, by omega⟩
  apply h
  rw [hq, Int.mul_assoc]
  exact Int.mul_emod_right 2 _
/-- a prime divides a product only through a factor -/
theorem isP_gcd {p a : Int} (hp : IsP p) (h : ¬ p ∣ a) : Int.gcd p a = 1 := by
  have h1 : ((Int.gcd p a : Nat) : Int) ∣ p := Int.gcd_dvd_left ..
  have h2 : ((Int.gcd p a : Nat) : Int) ∣ a := Int.gcd_dvd_right ..
  have hp0 := hp.1
  have hg0 : 0 < Int.gcd p a := Nat.pos_of_ne_zero fun z => by
    have := (Int.gcd_eq_zero_iff.mp z).1
    omega
  have h3 : ((Int.gcd p a : Nat) : Int) ≤ p := Int.le_of_dvd (by omega) h1
  rcases (by omega : Int.gcd p a = 1 ∨ 2 ≤ Int.gcd p a) with z | z
  · exact z
  · exfalso
    rcases (by omega : ((Int.gcd p a : Nat) : Int) = p ∨ ((Int.gcd p a : Nat) : Int) < p) with y | y
    · rw [y] at h2; exact h h2
    · exact hp.2 _ (by omega) y h1
theorem gcd_pow_one {p a : Int} (h : Int.gcd p a = 1) (k : Nat) : Int.gcd (p ^ k) a = 1 := by
  unfold Int.gcd at *
  rw [Int.natAbs_pow]
  exact Nat.Coprime.pow_left k h
theorem isP_pow_gcd {p a : Int} (hp : IsP p) (h : ¬ p ∣ a) (k : Nat) : Int.gcd (p ^ k) a = 1 := gcd_pow_one (isP_gcd hp h) k
theorem gcd_emod (m a : Int) : Int.gcd m (a % m) = Int.gcd m a := by
  have e : a % m = a - m * (a / m) := Int.emod_def a m
  apply Nat.dvd_antisymm
  · have h1 : ((Int.gcd m (a % m) : Nat) : Int) ∣ m := Int.gcd_dvd_left ..
    have h2 : ((Int.gcd m (a % m) : Nat) : Int) ∣ a % m := Int.gcd_dvd_right ..
    have h3 : ((Int.gcd m (a % m) : Nat) : Int) ∣ a := by
      have h4 := Int.dvd_add h2 (Int.dvd_mul_of_dvd_left (c := a / m) h1)
      rwa [show a % m + m * (a / m) = a by omega] at h4
    exact Int.natCast_dvd_natCast.mp (Int.dvd_coe_gcd h1 h3)
  · have h1 : ((Int.gcd m a : Nat) : Int) ∣ m := Int.gcd_dvd_left ..
    have h2 : ((Int.gcd m a : Nat) : Int) ∣ a := Int.gcd_dvd_right ..
    have h3 : ((Int.gcd m a : Nat) : Int) ∣ a % m := by
      rw [e]
      exact Int.dvd_sub h2 (Int.dvd_mul_of_dvd_left (c := a / m) h1)
    exact Int.natCast_dvd_natCast.mp (Int.dvd_coe_gcd h1 h3)
theorem gauss {p a b : Int} (h : Int.gcd p a = 1) (h2 : p ∣ a * b) : p ∣ b := by
  have h3 := Int.natAbs_dvd_natAbs.mpr h2
  rw [Int.natAbs_mul] at h3
  exact Int.natAbs_dvd_natAbs.mp (Nat.Coprime.dvd_of_dvd_mul_left (show Nat.Coprime p.natAbs a.natAbs from h) h3)
theorem pow_dvd (p : Int) {i j : Nat} (h : i ≤ j) : p ^ i ∣ p ^ j := by
  obtain ⟨d, rfl⟩ := Nat.exists_eq_add_of_le h
  rw [Int.pow_add]
  exact Int.dvd_mul_right ..
theorem pow_dvd1 (p : Int) {j : Nat} (h : 1 ≤ j) : p ∣ p ^ j := by
  have := pow_dvd p h
  rwa [Int.pow_succ, Int.pow_zero, Int.one_mul] at this
/-! ### Euclid's inverse -/
structure Inv2 (a m high low before now : Int) : Prop where
  l0 : 0 ≤ low
  lh : low < high
  g : Int.gcd high low = Int.gcd m a
  d1 : m ∣ before * a - high
  d2 : m ∣ now * a - low
  s : (0 ≤ now ∧ before ≤ 0 ∧ now * high - before * low = m) ∨ (now ≤ 0 ∧ 0 ≤ before ∧ before * low - now * high = m)
  hb : high ≤ m
  bb : before.natAbs ≤ m.natAbs
  nb : now.natAbs ≤ m.natAbs
theorem Inv2.start {a m : Int} (hm : 1 ≤ m) : Inv2 a m m (a % m) 0 1 where
  l0 := Int.emod_nonneg a (by omega)
  lh := Int.emod_lt_of_pos a (by omega)
  g := by
    exact gcd_emod m a
  d1 := by rw [Int.zero_mul, Int.zero_sub]; exact Int.dvd_neg.mpr (Int.dvd_refl m)
  d2 := by
    rw [Int.one_mul]
    exact Int.dvd_self_sub_emod
  s := .inl ⟨by decide, by decide, by omega⟩
  hb := Int.le_refl m
  bb := by omega
  nb := by omega
theorem Inv2.next {a m high low before now : Int} (h : Inv2 a m high low before now) (hl : low ≠ 0) : Inv2 a m low (high - high / low * low) now (before - high / low * now) := by
  have l0 := h.l0
  have lh := h.lh
  have e : high - high / low * low = high % low := by rw [Int.emod_def, Int.mul_comm]
  have q0 : 0 ≤ high / low := Int.ediv_nonneg (by omega) l0
  have r0 := Int.emod_nonneg high hl
  have r1 := Int.emod_lt_of_pos high (show 0 < low by omega)
  have hs : (0 ≤ before - high / low * now ∧ now ≤ 0 ∧ (before - high / low * now) * low - now * (high - high / low * low) = m) ∨ (before - high / low * now ≤ 0 ∧ 0 ≤ now ∧ now * (high - high / low * low) - (before - high / low * now) * low = m) := by
    generalize high / low = q at *
    rcases h.s with ⟨s1, s2, s3⟩ | ⟨s1, s2, s3⟩
    · right
      have h2 : 0 ≤ q * now := Int.mul_nonneg q0 s1
      exact ⟨by omega, s1, by grind⟩
    · left
      have h2 : 0 ≤ q * (-now) := Int.mul_nonneg q0 (by omega)
      rw [Int.mul_neg] at h2
      exact ⟨by omega, s1, by grind⟩
  refine ⟨by omega, by omega, ?_, h.d2, ?_, hs, by have := h.hb; omega, h.nb, ?_⟩
  · rw [e, ← h.g, Int.gcd_comm high low]
    exact gcd_emod low high
  · generalize high / low = q at *
    have h1 := Int.dvd_sub h.d1 (Int.dvd_mul_of_dvd_right (b := q) h.d2)
    have e2 : (before - q * now) * a - (high - q * low) = before * a - high - q * (now * a - low) := by grind
    rw [e2]
    exact h1
  · generalize before - high / low * now = w at *
    rw [e] at hs
    rcases hs with ⟨s1, s2, s3⟩ | ⟨s1, s2, s3⟩
    · have h1 : w * 1 ≤ w * low := Int.mul_le_mul_of_nonneg_left (by omega) s1
      have h2 : 0 ≤ -now * (high % low) := Int.mul_nonneg (by omega) r0
      rw [Int.neg_mul] at h2
      omega
    · have h1 : -w * 1 ≤ -w * low := Int.mul_le_mul_of_nonneg_left (by omega) (by omega)
      have h2 : 0 ≤ now * (high % low) := Int.mul_nonneg s2 r0
      rw [Int.neg_mul, Int.neg_mul] at h1
      omega
/-- at the end: an inverse, if there is one -/
theorem Inv2.done {a m high before now : Int} (h : Inv2 a m high 0 before now) (hm : 1 ≤ m) (hg : Int.gcd m a = 1) : m ∣ (before % m) * a - 1 := by
  have h1 := h.g
  rw [hg, Int.gcd_zero_right] at h1
  have h2 := h.lh
  have h3 : high = 1 := by omega
  have h4 := h.d1
  rw [h3] at h4
  have h5 : m ∣ before - before % m := Int.dvd_self_sub_emod
  have h6 := Int.dvd_sub h4 (Int.dvd_mul_of_dvd_left (c := a) h5)
  have e : before * a - 1 - (before - before % m) * a = before % m * a - 1 := by grind
  rw [e] at h6
  exact h6
/-! ### classes modulo powers of primes -/
def OkP (p : Int) : Prop := p ≤ 997 ∧ IsP p
theorem OkP.bd {p : Int} (h : OkP p) : Bd 10 p := ⟨by have := h.1; have := h.2.1; omega⟩
def Cls (x y p : Int) (j : Nat) (c0 c1 : Int) : Prop := (j = 0 ∧ c0 = 0 ∧ c1 = 0) ∨ (1 ≤ j ∧ c1 = 1 ∧ 0 ≤ c0 ∧ c0 < p ^ j ∧ p ^ j ∣ x - y * c0) ∨ (1 ≤ j ∧ c0 = 1 ∧ 0 ≤ c1 ∧ c1 < p ^ j ∧ p ∣ c1 ∧ p ^ j ∣ x * c1 - y)
theorem pow_one_le {p : Int} (hp : 2 ≤ p) (j : Nat) : 1 ≤ p ^ j := Int.pow_pos (by omega)
theorem OkP.pow {p : Int} (h : OkP p) {j : Nat} (hj : j ≤ 700) : Bd 7001 (p ^ j) := (h.bd.pow j).up (by omega)
def abvD (c0 c1 p : Int) (i : Nat) : D := if i = 0 then .tup [.int 0, .int 0] else if c1 = 1 then .tup [.int (c0 % p ^ i), .int 1] else .tup [.int 1, .int (c1 % p ^ i)]
def clsL (p : Int) (j : Nat) : List (Int × Int) := if j = 0 then [(0, 0)] else (prog 0 (p ^ j) 1).map (fun r => (r, 1)) ++ (prog 0 (p ^ j) p).map fun s => (1, s)
/-! ### comprehensions whose tests call and whose items are made -/
section
variable {E : En} {ε : Ep} {μ : Mu} {te : TE} {tt : TT} {wi : TI} {g : TG} {vs : List Nat} {Ψ : W → Mu → Prop}
theorem re_lcG (f : D → D) (p : D → Bool) (hi : RI E wi ε μ fun ds μ1 => ds.length ≤ sizeLine ∧ (∀ d ∈ ds, RGW E.mute vs g (.dat d) (wipeE ε vs) μ1 fun ε2 μ3 => μ3 = μ1 ∧ RT E.mute tt ε2 μ1 fun b μ4 => b = p d ∧ μ4 = μ1 ∧ (b = true → RE E.mute te ε2 μ1 fun w μ5 => w = .dat (f d) ∧ μ5 = μ1)) ∧
    DL (((ds.filter p).map f).map .dat) μ1 Ψ) : RE E (tLc wi g tt te vs) ε μ Ψ := by
  refine re_lc fun σ G H C X R k => hi σ G H C X R fun J ds Gi Y G1 H1 μ1 S1 s1 w hg hy ⟨hz, hs, q⟩ => k J ds Gi Y G1 H1 μ1 S1 s1 w hg hy ?_
  refine ⟨fun i acc μ' => μ' = μ1 ∧ acc = (((ds.take i).filter p).map f).map .dat, ⟨rfl, rfl⟩, ?_, ?_⟩
  · rintro i d acc _ hd hl ⟨rfl, rfl⟩
    have hil := (List.getElem?_eq_some_iff.mp hd).1
    have h1 := hs d (List.mem_of_getElem? hd)
    refine fun σ G H C v r Q kq => h1 σ G H C v r Q fun σ' ε' G' H' μ' S' s' w' ⟨e, ht⟩ => ?_
    subst e
    refine kq σ' ε' G' H' _ S' s' w' fun σ G H C X Q k2 => ht σ G H C X Q fun b G3 H3 μ3 S3 s3 ⟨hb, e3, he⟩ => ?_
    subst e3
    refine k2 b G3 H3 _ S3 s3 ⟨fun z => re_mono (he z) fun w μ5 ⟨e1, e2⟩ => ?_, fun z => ⟨rfl, ?_⟩⟩
    · subst e1 e2
      refine ⟨by omega, rfl, ?_⟩
      rw [filter_take_snoc p hd, if_pos (by rw [← hb, z]), List.map_append, List.map_append]
      rfl
    · rw [filter_take_snoc p hd, if_neg (by rw [← hb, z]; exact Bool.false_ne_true), List.append_nil]
  · rintro acc _ hl ⟨rfl, rfl⟩
    rw [List.take_length]
    exact q
/-- no test -/
theorem re_lcN (f : D → D) (hi : RI E wi ε μ fun ds μ1 => ds.length ≤ sizeLine ∧ (∀ d ∈ ds, RGW E.mute vs g (.dat d) (wipeE ε vs) μ1 fun ε2 μ3 => μ3 = μ1 ∧ RE E.mute te ε2 μ1 fun w μ5 => w = .dat (f d) ∧ μ5 = μ1) ∧ DL ((ds.map f).map .dat) μ1 Ψ) : RE E (tLc wi g tYes te vs) ε μ Ψ := by
  refine re_lcG f (fun _ => true) fun σ G H C X R k => hi σ G H C X R fun J ds Gi Y G1 H1 μ1 S1 s1 w hg hy ⟨hz, hs, q⟩ => k J ds Gi Y G1 H1 μ1 S1 s1 w hg hy ⟨hz, fun d hd => ?_, ?_⟩
  · exact fun σ G H C v r Q kq => hs d hd σ G H C v r Q fun σ' ε' G' H' μ' S' s' w' ⟨e, he⟩ => kq σ' ε' G' H' μ' S' s' w' ⟨e, rt_v vt_yes ⟨rfl, rfl, fun _ => he⟩⟩
  · rw [List.filter_eq_self.mpr fun _ _ => rfl]; exact q
end
theorem rng_prog (n : Nat) : rng 0 n = (prog 0 (n : Int) 1).map .int := by
  rw [prog_one]
  unfold rng
  rw [List.map_map]
  refine List.map_congr_left fun i _ => ?_
  show D.int (0 + (i : Int)) = D.int (i : Int)
  rw [Int.zero_add]
/-! ### pairs of ints as data -/
def prD (p : Int × Int) : D := .tup [.int p.1, .int p.2]
theorem prD_inj {p q : Int × Int} (h : prD p = prD q) : p = q := by
  obtain ⟨a, b⟩ := p
  obtain ⟨c, d⟩ := q
  unfold prD at h
  simp only [D.tup.injEq, List.cons.injEq, D.int.injEq] at h
  rw [h.1, h.2.1]
theorem okP : ∀ ps : List (Int × Int), D.okL (ps.map prD) = true
  | [] => rfl
  | p :: ps => by rw [List.map_cons, D.okL, okP ps]; rfl
theorem szP : ∀ ps : List (Int × Int), D.szL (ps.map prD) = 3 * ps.length
  | [] => rfl
  | p :: ps => by
    have e : (prD p).sz = 3 := by simp [prD, D.sz, D.szL]
    rw [List.map_cons, D.szL, szP ps, List.length_cons, e]; omega
/-- list(l), l owned, all its items data: frozen -/
theorem rc_listAU {E : En} {μ : Mu} {Ψ : W → Mu → Prop} {k : Nat} {l : Addr} {ws : List W} {ds : List D} (hm : μ[k]? = some (l, .lst ws)) (hu : undat ws = some ds) (q : Ψ (.dat (.lst ds)) μ) : RC E (rListOf E.K) [.at l] μ Ψ := by
  have e := undat_ws hu
  subst e
  exact rc_listAF hm q
theorem AllOf.at {α : Type} {P : α → Prop} {ds : List α} {x : α} (hx : x ∈ ds) (h : AllOf P ds) : P x := AllOf.mem h x hx
section
variable {E : En} {ε : Ep} {μ : Mu} {t : TS} {g : TG} {Φ : Fi} {ti : TI}
/-- a loop that leaves all but its own slot -/
theorem rs_forK (j : Nat) (hv : RI E ti ε μ fun ds μ1 => (∃ o, ε[j]? = some o) ∧ (∀ (i : Nat) d o, ds[i]? = some d → RG E g (.dat d) (ε.set j o) μ1 fun ε2 μ2 => RS E t ε2 μ2 (Φ.turn fun ε3 μ3 => ∃ o, ε.set j o = ε3 ∧ μ1 = μ3)) ∧ ∀ o, Φ.nx (ε.set j o) μ1) : RS E (tFor ti g t) ε μ Φ :=
  rs_forI fun σ G H C X R k => hv σ G H C X R fun J ds Gi Y G1 H1 μ1 S1 s1 w hg hy ⟨⟨o, h0⟩, hs, hd⟩ => k J ds Gi Y G1 H1 μ1 S1 s1 w hg hy
    ⟨fun i ε' μ' => ∃ o, ε.set j o = ε' ∧ μ1 = μ', ⟨o, set_at h0, rfl⟩, fun i d ε' μ' hd1 ⟨o, e, p⟩ => by subst e; subst p; exact hs i d o hd1, fun ε' μ' ⟨o, e, p⟩ => by subst e; subst p; exact hd o⟩
end
theorem cut_mem {ds : List D} {lo hi : Option Int} {x : D} (h : x ∈ Sn.cutD ds lo hi) : x ∈ ds := List.mem_of_mem_drop (List.mem_of_mem_take h)
theorem cut_len (ds : List D) (lo hi : Option Int) : (Sn.cutD ds lo hi).length ≤ ds.length := by
  unfold Sn.cutD
  rw [List.length_take, List.length_drop]
  omega
end Sn

/-! Sn: totients, in plain Lean. -/
namespace Sn
/-- how many k < N have f -/
def num (f : Nat → Bool) : Nat → Nat
  | 0 => 0
  | N + 1 => num f N + if f N = true then 1 else 0
theorem num_congr {f g : Nat → Bool} : ∀ {N : Nat}, (∀ k, k < N → f k = g k) → num f N = num g N
  | 0, _ => rfl
  | N + 1, h => by rw [num, num, num_congr fun k hk => h k (by omega), h N (by omega)]
theorem num_le (f : Nat → Bool) : ∀ N, num f N ≤ N
  | 0 => Nat.le_refl 0
  | N + 1 => by rw [num]; have := num_le f N; split <;> omega
theorem num_lt {f : Nat → Bool} (h : f 0 = false) : ∀ N, 0 < N → num f N < N
  | 1, _ => by simp [num, h]
  | N + 2, _ => by rw [num]; have := num_lt h (N + 1) (by omega); split <;> omega
theorem num_all {f : Nat → Bool} : ∀ {N : Nat}, (∀ k, k < N → f k = true) → num f N = N
  | 0, _ => rfl
  | N + 1, h => by rw [num, num_all fun k hk => h k (by omega), if_pos (h N (by omega))]
theorem num_none {f : Nat → Bool} : ∀ {N : Nat}, (∀ k, k < N → f k = false) → num f N = 0
  | 0, _ => rfl
  | N + 1, h => by rw [num, num_none fun k hk => h k (by omega), if_neg (by rw [h N (by omega)]; exact Bool.false_ne_true)]
theorem num_add (f : Nat → Bool) (M : Nat) : ∀ N, num f (M + N) = num f M + num (fun k => f (M + k)) N
  | 0 => rfl
  | N + 1 => by rw [← Nat.add_assoc, num, num, num_add f M N, Nat.add_assoc]
theorem num_per {f : Nat → Bool} {M : Nat} (h : ∀ k, f (M + k) = f k) : ∀ q, num f (q * M) = q * num f M
  | 0 => by simp [num]
  | q + 1 => by
    have e : ∀ q k, f (q * M + k) = f k := fun q => by
      induction q with
      | zero => intro k; simp
      | succ q ih => intro k; rw [Nat.succ_mul, Nat.add_comm (q * M) M, Nat.add_assoc, h, ih]
    rw [Nat.succ_mul, num_add, num_per h q, num_congr (g := f) fun k _ => e q k, Nat.succ_mul]
theorem num_split (f g : Nat → Bool) : ∀ N, num f N = num (fun k => f k && g k) N + num (fun k => f k && !g k) N
  | 0 => rfl
  | N + 1 => by
    rw [num, num, num, num_split f g N]
    cases f N <;> cases g N <;> simp <;> omega
/-- those that p divides -/
theorem num_mul {f : Nat → Bool} {p : Nat} (hp : 0 < p) : ∀ M, num (fun k => decide (k % p = 0) && f k) (p * M) = num (fun j => f (p * j)) M
  | 0 => rfl
  | M + 1 => by
    rw [Nat.mul_succ, num_add, num_mul hp M, num]
    congr 1
    obtain ⟨q, rfl⟩ : ∃ q, p = q + 1 := ⟨p - 1, by omega⟩
    have h1 : num (fun k => decide (((q + 1) * M + (1 + k)) % (q + 1) = 0) && f ((q + 1) * M + (1 + k))) q = 0 := num_none fun k hk => by
      have : ((q + 1) * M + (1 + k)) % (q + 1) = 1 + k := by
        rw [Nat.mul_add_mod]
        exact Nat.mod_eq_of_lt (by omega)
      rw [this]
      simp
    rw [Nat.add_comm q 1, num_add]
    rw [Nat.add_comm 1 q, h1]
    show num _ 1 + 0 = _
    rw [num, num, Nat.add_zero, Nat.zero_add, Nat.add_zero, Nat.mul_mod_right]
    simp
/-- a prime more: a p-th part less -/
theorem num_step {g : Nat → Bool} {p M : Nat} (hp : 0 < p) (h1 : ∀ k, g (M + k) = g k) (h2 : ∀ j, g (p * j) = g j) : num (fun k => g k && !decide (k % p = 0)) (p * M) = num g (p * M) - num g (p * M) / p := by
  have e := num_split g (fun k => decide (k % p = 0)) (p * M)
  have e1 : num (fun k => g k && decide (k % p = 0)) (p * M) = num g M := by
    rw [num_congr (g := fun k => decide (k % p = 0) && g k) fun k _ => Bool.and_comm _ _, num_mul hp]
    exact num_congr fun j _ => h2 j
  have e2 : num g (p * M) = p * num g M := num_per h1 p
  rw [e2, Nat.mul_div_cancel_left _ hp]
  omega
def phi (n : Nat) : Nat := num (fun k => decide (Nat.gcd k n = 1)) n
def isP (n : Nat) : Prop := 2 ≤ n ∧ ∀ d, 2 ≤ d → d < n → ¬ d ∣ n
theorem isP_cast {n : Nat} : IsP (n : Int) ↔ isP n := by
  constructor
  · rintro ⟨h1, h2⟩
    exact ⟨by omega, fun d hd hn h => h2 d (by omega) (by omega) (Int.natCast_dvd_natCast.mpr h)⟩
  · rintro ⟨h1, h2⟩
    refine ⟨by omega, fun d hd hn h => ?_⟩
    have h3 : ((d.toNat : Nat) : Int) ∣ (n : Int) := by rw [Int.toNat_of_nonneg (by omega)]; exact h
    exact h2 d.toNat (by omega) (by omega) (Int.natCast_dvd_natCast.mp h3)
theorem primeB_isP {n : Nat} : primeB n = true ↔ isP n := primeB_iff.trans isP_cast
theorem isP_cop {p a : Nat} (hp : isP p) (h : ¬ p ∣ a) : Nat.gcd p a = 1 := by
  have h1 := Nat.gcd_dvd_left p a
  have h2 := Nat.gcd_dvd_right p a
  have h0 : 0 < Nat.gcd p a := Nat.gcd_pos_of_pos_left _ (by have := hp.1; omega)
  have h3 := Nat.le_of_dvd (by have := hp.1; omega) h1
  rcases (by omega : Nat.gcd p a = 1 ∨ 2 ≤ Nat.gcd p a) with z | z
  · exact z
  · rcases (by omega : Nat.gcd p a = p ∨ Nat.gcd p a < p) with y | y
    · rw [y] at h2; exact absurd h2 h
    · exact absurd h1 (hp.2 _ z y)
theorem isP_dvd {p q : Nat} (hp : isP p) (hq : isP q) (h : p ∣ q) : p = q := by
  rcases (by have := Nat.le_of_dvd (by have := hq.1; omega) h; omega : p = q ∨ p < q) with z | z
  · exact z
  · exact absurd h (hq.2 p hp.1 z)
theorem prime_dvd {n : Nat} (h : 2 ≤ n) : ∃ p, isP p ∧ p ∣ n := by
  induction n using Nat.strongRecOn with
  | ind n ih =>
    by_cases z : isP n
    · exact ⟨n, z, Nat.dvd_refl n⟩
    · have : ∃ d, 2 ≤ d ∧ d < n ∧ d ∣ n := by
        refine Classical.byContradiction fun q => z ⟨h, fun d h1 h2 h3 => q ⟨d, h1, h2, h3⟩⟩
      obtain ⟨d, h1, h2, h3⟩ := this
      obtain ⟨p, hp, hd⟩ := ih d h2 h1
      exact ⟨p, hp, Nat.dvd_trans hd h3⟩
/-- no number of P divides k -/
def offB (P : List Nat) (k : Nat) : Bool := P.all fun q => !decide (k % q = 0)
def copL (P : List Nat) (m : Nat) : Nat := num (offB P) m
theorem offB_snoc (P : List Nat) (p k : Nat) : offB (P ++ [p]) k = (offB P k && !decide (k % p = 0)) := by
  unfold offB
  rw [List.all_append]
  simp
theorem off_true {P : List Nat} {k : Nat} : offB P k = true ↔ ∀ q ∈ P, ¬ q ∣ k := by
  unfold offB
  rw [List.all_eq_true]
  constructor
  · intro h q hq hd
    have := h q hq
    rw [Bool.not_eq_true', decide_eq_false_iff_not] at this
    exact this (Nat.mod_eq_zero_of_dvd hd)
  · intro h q hq
    rw [Bool.not_eq_true', decide_eq_false_iff_not]
    exact fun z => h q hq (Nat.dvd_of_mod_eq_zero z)
theorem copL_step {P : List Nat} {p m : Nat} (hp : isP p) (hm : p ∣ m) (h : ∀ q ∈ P, isP q ∧ q ∣ m ∧ q ≠ p) : copL (P ++ [p]) m = copL P m - copL P m / p := by
  obtain ⟨M, rfl⟩ := hm
  have hM : ∀ q ∈ P, q ∣ M := fun q hq => by
    obtain ⟨h1, h2, h3⟩ := h q hq
    have : Nat.gcd q p = 1 := isP_cop h1 fun z => h3 (isP_dvd h1 hp z)
    exact Nat.Coprime.dvd_of_dvd_mul_left this h2
  have e : copL (P ++ [p]) (p * M) = num (fun k => offB P k && !decide (k % p = 0)) (p * M) := num_congr fun k _ => offB_snoc P p k
  rw [e]
  refine num_step (by have := hp.1; omega) (fun k => ?_) fun j => ?_
  · rw [Bool.eq_iff_iff, off_true, off_true]
    exact ⟨fun z q hq hd => z q hq ((Nat.dvd_add_right (hM q hq)).mpr hd), fun z q hq hd => z q hq ((Nat.dvd_add_right (hM q hq)).mp hd)⟩
  · rw [Bool.eq_iff_iff, off_true, off_true]
    refine ⟨fun z q hq hd => z q hq (Nat.dvd_mul_left_of_dvd hd p), fun z q hq hd => ?_⟩
    obtain ⟨h1, h2, h3⟩ := h q hq
    have : Nat.gcd q p = 1 := isP_cop h1 fun z => h3 (isP_dvd h1 hp z)
    exact z q hq (Nat.Coprime.dvd_of_dvd_mul_left this hd)
theorem copL_phi {P : List Nat} {m : Nat} (h : ∀ q, q ∈ P ↔ isP q ∧ q ∣ m) : copL P m = phi m := by
  refine num_congr fun k hk => ?_
  rw [Bool.eq_iff_iff, off_true, decide_eq_true_eq]
  constructor
  · intro z
    rcases (by have := Nat.gcd_pos_of_pos_right k (show 0 < m by omega); omega : Nat.gcd k m = 1 ∨ 2 ≤ Nat.gcd k m) with y | y
    · exact y
    · obtain ⟨p, hp, hd⟩ := prime_dvd y
      exact absurd (Nat.dvd_trans hd (Nat.gcd_dvd_left k m)) (z p ((h p).mpr ⟨hp, Nat.dvd_trans hd (Nat.gcd_dvd_right k m)⟩))
  · intro z q hq hd
    obtain ⟨h1, h2⟩ := (h q).mp hq
    have := Nat.dvd_gcd hd h2
    rw [z] at this
    have := Nat.le_of_dvd (by decide) this
    have := h1.1
    omega
/-! ### the sum over divisors -/
def tot (F : Nat → Nat) : Nat → Nat
  | 0 => 0
  | n + 1 => tot F n + F (n + 1)
theorem tot_congr {F G : Nat → Nat} : ∀ {n : Nat}, (∀ d, 1 ≤ d → d ≤ n → F d = G d) → tot F n = tot G n
  | 0, _ => rfl
  | n + 1, h => by rw [tot, tot, tot_congr fun d h1 h2 => h d h1 (by omega), h (n + 1) (by omega) (Nat.le_refl _)]
theorem tot_add (F G : Nat → Nat) : ∀ n, tot (fun d => F d + G d) n = tot F n + tot G n
  | 0 => rfl
  | n + 1 => by rw [tot, tot, tot, tot_add F G n]; omega
theorem tot_one (h : Nat) : ∀ n, tot (fun d => if h = d then 1 else 0) n = if 1 ≤ h ∧ h ≤ n then 1 else 0
  | 0 => by rw [tot, if_neg (by omega)]
  | n + 1 => by
    rw [tot, tot_one h n]
    by_cases e : h = n + 1
    · rw [if_pos e, if_neg (by omega), if_pos (by omega)]
    · rw [if_neg e]
      by_cases e2 : 1 ≤ h ∧ h ≤ n
      · rw [if_pos e2, if_pos (by omega)]
      · rw [if_neg e2, if_neg (by omega)]
theorem tot_class {h : Nat → Nat} {n : Nat} : ∀ {N : Nat}, (∀ k, k < N → 1 ≤ h k ∧ h k ≤ n) → tot (fun d => num (fun k => decide (h k = d)) N) n = N
  | 0, _ => by
    have : ∀ n, tot (fun d => num (fun k => decide (h k = d)) 0) n = 0 := fun n => by
      induction n with
      | zero => rfl
      | succ n ih => rw [tot, ih]; rfl
    exact this n
  | N + 1, H => by
    have e : ∀ d, num (fun k => decide (h k = d)) (N + 1) = num (fun k => decide (h k = d)) N + if h N = d then 1 else 0 := fun d => by
      rw [num]
      congr 1
      by_cases z : h N = d
      · rw [if_pos z, if_pos (decide_eq_true z)]
      · rw [if_neg z, if_neg (by rw [decide_eq_false z]; exact Bool.false_ne_true)]
    rw [tot_congr (G := fun d => num (fun k => decide (h k = d)) N + if h N = d then 1 else 0) fun d _ _ => e d, tot_add, tot_class fun k hk => H k (by omega), tot_one, if_pos (H N (by omega))]
theorem class_phi {n d : Nat} (hn : 0 < n) (hd : d ∣ n) : num (fun k => decide (n / Nat.gcd k n = d)) n = phi d := by
  obtain ⟨g, rfl⟩ := hd
  have hg : 0 < g := Nat.pos_of_mul_pos_left hn |> fun h => by
    rcases Nat.eq_zero_or_pos g with z | z
    · subst z; simp at hn
    · exact z
  have hd0 : 0 < d := by
    rcases Nat.eq_zero_or_pos d with z | z
    · subst z; simp at hn
    · exact z
  have e : ∀ k, (decide (d * g / Nat.gcd k (d * g) = d)) = (decide (k % g = 0) && decide (Nat.gcd (k / g) d = 1)) := fun k => by
    rw [Bool.eq_iff_iff, Bool.and_eq_true, decide_eq_true_eq, decide_eq_true_eq, decide_eq_true_eq]
    have hG := Nat.gcd_dvd_right k (d * g)
    have hG0 : 0 < Nat.gcd k (d * g) := Nat.gcd_pos_of_pos_right k hn
    constructor
    · intro z
      have h1 : Nat.gcd k (d * g) = g := by
        have h2 := Nat.div_mul_cancel hG
        rw [z] at h2
        exact Nat.eq_of_mul_eq_mul_left hd0 h2
      have h3 : g ∣ k := by
        have := Nat.gcd_dvd_left k (d * g)
        rwa [h1] at this
      obtain ⟨j, rfl⟩ := h3
      refine ⟨Nat.mul_mod_right g j, ?_⟩
      rw [Nat.mul_div_cancel_left _ hg]
      rw [Nat.mul_comm d g, Nat.gcd_mul_left] at h1
      have : g * Nat.gcd j d = g * 1 := by rw [Nat.mul_one]; exact h1
      exact Nat.eq_of_mul_eq_mul_left hg this
    · rintro ⟨h1, h2⟩
      obtain ⟨j, rfl⟩ := Nat.dvd_of_mod_eq_zero h1
      rw [Nat.mul_div_cancel_left _ hg] at h2
      rw [Nat.mul_comm d g, Nat.gcd_mul_left, h2, Nat.mul_one, Nat.mul_div_cancel_left _ hg]
  rw [num_congr (g := fun k => decide (k % g = 0) && decide (Nat.gcd (k / g) d = 1)) fun k _ => e k, Nat.mul_comm d g, num_mul hg]
  unfold phi
  exact num_congr fun j _ => by rw [Nat.mul_div_cancel_left _ hg]
/-- the totients of the divisors of n sum to n -/
theorem gauss_phi {n : Nat} (hn : 0 < n) : tot (fun d => if d ∣ n then phi d else 0) n = n := by
  have h := tot_class (h := fun k => n / Nat.gcd k n) (n := n) (N := n) fun k _ => by
    have hG0 : 0 < Nat.gcd k n := Nat.gcd_pos_of_pos_right k hn
    exact ⟨(Nat.one_le_div_iff hG0).mpr (Nat.le_of_dvd hn (Nat.gcd_dvd_right k n)), Nat.div_le_self _ _⟩
  refine Eq.trans (tot_congr fun d h1 h2 => ?_) h
  split
  · rename_i hd
    exact (class_phi hn hd).symm
  · rename_i hd
    symm
    refine num_none fun k _ => ?_
    rw [decide_eq_false_iff_not]
    intro z
    apply hd
    rw [← z]
    exact Nat.div_dvd_of_dvd (Nat.gcd_dvd_right k n)
end Sn

/-! Sn: numbers split into powers of primes, tables of totients, in plain Lean. -/
namespace Sn
open PySem L2
def spl : Nat → Int → Int → Nat × Int
  | 0, _, n => (0, n)
  | f + 1, p, n => if n % p = 0 then ((spl f p (n / p)).1 + 1, (spl f p (n / p)).2) else (0, n)
/-- the greatest power of p that divides n, and the rest -/
def splF (p n : Int) : Nat × Int := spl n.natAbs p n
theorem spl_ok {p : Int} (hp : 2 ≤ p) : ∀ (f : Nat) (n : Int), n ≠ 0 → n.natAbs ≤ f → n = p ^ (spl f p n).1 * (spl f p n).2 ∧ ¬ p ∣ (spl f p n).2
  | 0, n, h0, h => absurd h (by omega)
  | f + 1, n, h0, h => by
    rw [spl]
    by_cases z : n % p = 0
    · rw [if_pos z]
      have hd := Int.dvd_of_emod_eq_zero z
      have e := Int.mul_ediv_cancel' hd
      have h1 : n / p ≠ 0 := fun q => h0 (by rw [← e, q, Int.mul_zero])
      have h2 : (n / p).natAbs < n.natAbs := by
        have h3 : n.natAbs = p.natAbs * (n / p).natAbs := by rw [← Int.natAbs_mul, e]
        have h4 : 2 * (n / p).natAbs ≤ p.natAbs * (n / p).natAbs := Nat.mul_le_mul_right _ (by omega)
        omega
      obtain ⟨a, b⟩ := spl_ok hp f (n / p) h1 (by omega)
      refine ⟨?_, b⟩
      show n = p ^ (_ + 1) * _
      rw [Int.pow_succ, Int.mul_comm _ p, Int.mul_assoc, ← a, e]
    · rw [if_neg z]
      exact ⟨by simp, fun hd => z (Int.emod_eq_zero_of_dvd hd)⟩
theorem splF_ok {p n : Int} (hp : 2 ≤ p) (hn : n ≠ 0) : n = p ^ (splF p n).1 * (splF p n).2 ∧ ¬ p ∣ (splF p n).2 := spl_ok hp _ n hn (Nat.le_refl _)
theorem spl_uniq {p : Int} (hp : 2 ≤ p) {r r' : Int} : ∀ {k k' : Nat}, p ^ k * r = p ^ k' * r' → ¬ p ∣ r → ¬ p ∣ r' → k = k' ∧ r = r'
  | 0, 0, h, _, _ => ⟨rfl, by simpa using h⟩
  | 0, k' + 1, h, h1, _ => by
    exfalso; apply h1
    rw [Int.pow_zero, Int.one_mul, Int.pow_succ, Int.mul_comm _ p, Int.mul_assoc] at h
    exact ⟨_, h⟩
  | k + 1, 0, h, _, h2 => by
    exfalso; apply h2
    rw [Int.pow_zero, Int.one_mul, Int.pow_succ, Int.mul_comm _ p, Int.mul_assoc] at h
    exact ⟨_, h.symm⟩
  | k + 1, k' + 1, h, h1, h2 => by
    rw [Int.pow_succ, Int.pow_succ, Int.mul_comm _ p, Int.mul_comm _ p, Int.mul_assoc, Int.mul_assoc] at h
    have h3 := Int.eq_of_mul_eq_mul_left (by omega) h
    obtain ⟨a, b⟩ := spl_uniq hp h3 h1 h2
    exact ⟨by omega, b⟩
theorem splF_of {p n r : Int} {k : Nat} (hp : 2 ≤ p) (hn : n ≠ 0) (h : n = p ^ k * r) (hr : ¬ p ∣ r) : splF p n = (k, r) := by
  obtain ⟨a, b⟩ := splF_ok hp hn
  obtain ⟨h1, h2⟩ := spl_uniq hp (h.symm.trans a) hr b
  exact Prod.ext h1.symm h2.symm
def prodF (r : Int) (ps : List (Int × Int)) : Int := ps.foldl (fun a q => a * q.1 ^ q.2.toNat) r
theorem prodF_snoc (r : Int) (ps : List (Int × Int)) (q : Int × Int) : prodF r (ps ++ [q]) = prodF r ps * q.1 ^ q.2.toNat := by
  unfold prodF
  rw [List.foldl_append]; rfl
theorem prodF_mul (c : Int) : ∀ (ps : List (Int × Int)) (r : Int), prodF (c * r) ps = c * prodF r ps
  | [], r => rfl
  | q :: ps, r => by
    show prodF (c * r * _) ps = c * prodF (r * _) ps
    rw [Int.mul_assoc, prodF_mul c ps]
/-- one turn of the splitting; the last mark: no more turns -/
def ppS (s : List (Int × Int) × Int × Bool) (d : Int) : List (Int × Int) × Int × Bool :=
  if s.2.2 = true then s else if s.2.1 = 1 then (s.1, s.2.1, true) else if d * d > s.2.1 then (if s.2.1 ≤ 997 then (s.1 ++ [(s.2.1, 1)], 1, true) else (s.1, s.2.1, true))
  else if s.2.1 % d = 0 then (s.1 ++ [(d, ((splF d s.2.1).1 : Int))], (splF d s.2.1).2, false) else s
def ppI (n : Int) (i : Nat) : List (Int × Int) × Int × Bool := (List.range i).foldl (fun s (k : Nat) => ppS s (2 + (k : Int))) ([], n, false)
def ppF (n : Int) : List (Int × Int) × Int := ((ppI n 996).1, (ppI n 996).2.1)
theorem ppI_succ (n : Int) (i : Nat) : ppI n (i + 1) = ppS (ppI n i) (2 + (i : Int)) := by
  unfold ppI
  rw [List.range_succ, List.foldl_append]; rfl
theorem ppI_stop {n : Int} {i : Nat} (h : (ppI n i).2.2 = true) : ∀ j, ppI n (i + j) = ppI n i
  | 0 => rfl
  | j + 1 => by
    rw [← Nat.add_assoc, ppI_succ, ppI_stop h j]
    unfold ppS
    rw [if_pos h]
structure PPok (n : Int) (i : Nat) (s : List (Int × Int) × Int × Bool) : Prop where
  r1 : 1 ≤ s.2.1
  pr : n = prodF s.2.1 s.1
  pm : ∀ q ∈ s.1, IsP q.1 ∧ q.1 ≤ 997 ∧ 1 ≤ q.2
  so : s.1.Pairwise fun a b => a.1 < b.1
  lo : s.2.2 = false → ∀ q ∈ s.1, q.1 < 2 + (i : Int)
  no : s.2.2 = false → ∀ e, 2 ≤ e → e < 2 + (i : Int) → ¬ e ∣ s.2.1
  ns : s.2.2 = true → ∀ e, 2 ≤ e → e ≤ 997 → ¬ e ∣ s.2.1
  ln : s.1.length ≤ i
theorem ppI_ok {n : Int} (hn : 1 ≤ n) : ∀ i, i ≤ 996 → PPok n i (ppI n i)
  | 0, _ => ⟨hn, rfl, fun q h => (by cases h), List.Pairwise.nil, fun _ q h => (by cases h), fun _ e h1 h2 => (by omega), fun h => (by cases h), Nat.le_refl 0⟩
  | i + 1, hi => by
    have I := ppI_ok hn i (by omega)
    rw [ppI_succ]
    generalize ppI n i = s at I
    obtain ⟨ps, r, b⟩ := s
    obtain ⟨r1, pr, pm, so, lo, no, ns, ln⟩ := I
    dsimp only at r1 pr pm so lo no ns ln
    unfold ppS
    dsimp only
    cases b with
    | true =>
      rw [if_pos rfl]
      exact ⟨r1, pr, pm, so, fun h => (by cases h), fun h => (by cases h), fun _ => ns rfl, by dsimp only; omega⟩
    | false =>
      have lo := lo rfl
      have no := no rfl
      rw [if_neg Bool.false_ne_true]
      by_cases z1 : r = 1
      · subst z1
        rw [if_pos rfl]
        refine ⟨r1, pr, pm, so, fun h => (by cases h), fun h => (by cases h), fun _ e h1 h2 (h3 : e ∣ (1 : Int)) => ?_, by dsimp only; omega⟩
        have := Int.le_of_dvd (by decide) h3
        omega
      rw [if_neg z1]
      by_cases z2 : (2 + (i : Int)) * (2 + (i : Int)) > r
      · rw [if_pos z2]
        have hP : IsP r := isP_of_below (by omega) (2 + (i : Int)) (by omega) z2 no
        have hge : 2 + (i : Int) ≤ r := by
          rcases Int.lt_or_le r (2 + (i : Int)) with y | y
          · exact absurd (Int.dvd_refl r) (no r hP.1 y)
          · exact y
        by_cases z3 : r ≤ 997
        · rw [if_pos z3]
          refine ⟨Int.le_refl 1, ?_, ?_, ?_, fun h => (by cases h), fun h => (by cases h), fun _ e h1 h2 (h3 : e ∣ (1 : Int)) => ?_, by dsimp only; rw [List.length_append, List.length_singleton]; omega⟩
          · dsimp only
            rw [prodF_snoc]
            show n = prodF 1 ps * r ^ 1
            rw [Int.pow_succ, Int.pow_zero, Int.one_mul, Int.mul_comm, ← prodF_mul, Int.mul_one]
            exact pr
          · intro q hq
            rcases List.mem_append.mp hq with hq | hq
            · exact pm q hq
            · rw [List.mem_singleton.mp hq]; exact ⟨hP, z3, Int.le_refl 1⟩
          · refine List.pairwise_append.mpr ⟨so, List.pairwise_singleton .., fun a ha b hb => ?_⟩
            rw [List.mem_singleton.mp hb]
            have := lo a ha
            show a.1 < r
            omega
          · have := Int.le_of_dvd (by decide) h3
            omega
        · rw [if_neg z3]
          exact ⟨r1, pr, pm, so, fun h => (by cases h), fun h => (by cases h), fun _ e h1 h2 h3 => hP.2 e h1 (by omega) h3, by dsimp only; omega⟩
      rw [if_neg z2]
      by_cases z4 : r % (2 + (i : Int)) = 0
      · rw [if_pos z4]
        have hd := Int.dvd_of_emod_eq_zero z4
        have hdP : IsP (2 + (i : Int)) := ⟨by omega, fun e h1 h2 h3 => no e h1 h2 (Int.dvd_trans h3 hd)⟩
        obtain ⟨a, c⟩ := splF_ok (p := 2 + (i : Int)) (n := r) (by omega) (by omega)
        generalize splF (2 + (i : Int)) r = kr at a c
        obtain ⟨k, r'⟩ := kr
        dsimp only at a c ⊢
        have hk : 1 ≤ k := by
          rcases Nat.eq_zero_or_pos k with y | y
          · subst y
            rw [Int.pow_zero, Int.one_mul] at a
            rw [a] at hd
            exact absurd hd c
          · exact y
        have hp0 : 0 < (2 + (i : Int)) ^ k := Int.pow_pos (by omega)
        have hr' : 1 ≤ r' := by
          rcases Int.lt_or_le r' 1 with y | y
          · have := Int.mul_le_mul_of_nonneg_left (show r' ≤ 0 by omega) (Int.le_of_lt hp0)
            omega
          · exact y
        refine ⟨hr', ?_, ?_, ?_, ?_, ?_, fun h => (by cases h), by dsimp only; rw [List.length_append, List.length_singleton]; omega⟩
        · dsimp only
          rw [prodF_snoc]
          show n = prodF r' ps * (2 + (i : Int)) ^ ((k : Int)).toNat
          rw [Int.toNat_natCast, Int.mul_comm, ← prodF_mul, ← a]
          exact pr
        · intro q hq
          rcases List.mem_append.mp hq with hq | hq
          · exact pm q hq
          · rw [List.mem_singleton.mp hq]; exact ⟨hdP, by dsimp only; omega, by dsimp only; omega⟩
        · refine List.pairwise_append.mpr ⟨so, List.pairwise_singleton .., fun a ha b hb => ?_⟩
          rw [List.mem_singleton.mp hb]
          exact lo a ha
        · intro _ q hq
          rcases List.mem_append.mp hq with hq | hq
          · have := lo q hq; omega
          · rw [List.mem_singleton.mp hq]; dsimp only; omega
        · intro _ e h1 h2 h3
          rcases (by omega : e < 2 + (i : Int) ∨ e = 2 + (i : Int)) with y | y
          · exact no e h1 y (by rw [a]; exact Int.dvd_mul_of_dvd_right (b := (2 + (i : Int)) ^ k) h3)
          · subst y; exact c h3
      · rw [if_neg z4]
        refine ⟨r1, pr, pm, so, fun _ q hq => by have := lo q hq; omega, fun _ e h1 h2 h3 => ?_, fun h => (by cases h), by dsimp only; omega⟩
        rcases (by omega : e < 2 + (i : Int) ∨ e = 2 + (i : Int)) with y | y
        · exact no e h1 y h3
        · subst y; exact z4 (Int.emod_eq_zero_of_dvd h3)
structure Parts (n : Int) (ps : List (Int × Int)) (r : Int) : Prop where
  r1 : 1 ≤ r
  pr : n = prodF r ps
  pm : ∀ q ∈ ps, IsP q.1 ∧ q.1 ≤ 997 ∧ 1 ≤ q.2
  so : ps.Pairwise fun a b => a.1 < b.1
  no : ∀ e, 2 ≤ e → e ≤ 997 → ¬ e ∣ r
  ln : ps.length ≤ 996
theorem ppF_ok {n : Int} (hn : 1 ≤ n) : Parts n (ppF n).1 (ppF n).2 := by
  have I := ppI_ok hn 996 (Nat.le_refl _)
  refine ⟨I.r1, I.pr, I.pm, I.so, fun e h1 h2 => ?_, I.ln⟩
  cases h : (ppI n 996).2.2 with
  | true => exact I.ns h e h1 h2
  | false => exact I.no h e h1 (by omega)
theorem prodF_dvd : ∀ {ps : List (Int × Int)} {r : Int} {q : Int × Int}, q ∈ ps → q.1 ^ q.2.toNat ∣ prodF r ps
  | p :: ps, r, q, h => by
    show _ ∣ prodF (r * p.1 ^ p.2.toNat) ps
    rcases List.mem_cons.mp h with rfl | h
    · rw [Int.mul_comm, prodF_mul]
      exact Int.dvd_mul_right ..
    · exact prodF_dvd h
theorem prodF_rest (ps : List (Int × Int)) (r : Int) : r ∣ prodF r ps := by
  have := prodF_mul r ps 1
  rw [Int.mul_one] at this
  rw [this]
  exact Int.dvd_mul_right ..
theorem prime_mul {p a b : Int} (hp : IsP p) (h : p ∣ a * b) : p ∣ a ∨ p ∣ b := by
  by_cases z : p ∣ a
  · exact .inl z
  · exact .inr (gauss (isP_gcd hp z) h)
theorem prime_pow {p a : Int} (hp : IsP p) : ∀ {k : Nat}, p ∣ a ^ k → p ∣ a
  | 0, h => by
    rw [Int.pow_zero] at h
    have := Int.le_of_dvd (by decide) h
    have := hp.1
    omega
  | k + 1, h => by
    rw [Int.pow_succ] at h
    rcases prime_mul hp h with h | h
    · exact prime_pow hp h
    · exact h
theorem prime_prod {p : Int} (hp : IsP p) : ∀ {ps : List (Int × Int)} {r : Int}, p ∣ prodF r ps → p ∣ r ∨ ∃ q ∈ ps, p ∣ q.1
  | [], r, h => .inl h
  | q :: ps, r, h => by
    rcases prime_prod hp (ps := ps) (r := r * q.1 ^ q.2.toNat) h with h | ⟨q', hq', h⟩
    · rcases prime_mul hp h with h | h
      · exact .inl h
      · exact .inr ⟨q, List.mem_cons_self, prime_pow hp h⟩
    · exact .inr ⟨q', List.mem_cons_of_mem _ hq', h⟩
theorem isP_eq {p q : Int} (hp : IsP p) (hq : IsP q) (h : p ∣ q) : p = q := by
  have h1 := Int.le_of_dvd (by have := hq.1; omega) h
  rcases (by omega : p = q ∨ p < q) with z | z
  · exact z
  · exact absurd h (hq.2 p hp.1 z)
/-- r - r // p for each p in turn -/
def cutP (n : Int) (ps : List Int) : Int := ps.foldl (fun r p => r - r / p) n
theorem cutP_snoc (n : Int) (ps : List Int) (p : Int) : cutP n (ps ++ [p]) = cutP n ps - cutP n ps / p := by
  unfold cutP
  rw [List.foldl_append]; rfl
theorem cutP_cop {n : Nat} (ps : List Nat) (h : ∀ q ∈ ps, isP q ∧ q ∣ n) (hd : ps.Nodup) : ∀ i, i ≤ ps.length → cutP (n : Int) ((ps.take i).map fun q : Nat => (q : Int)) = (copL (ps.take i) n : Nat)
  | 0, _ => by
    show (n : Int) = _
    congr 1
    exact (num_all fun k _ => rfl).symm
  | i + 1, hi => by
    have hg : ps[i]? = some ps[i] := List.getElem?_eq_getElem (by omega)
    have hm : ps[i] ∈ ps := List.getElem_mem _
    rw [take_snoc hg, List.map_append]
    show cutP (n : Int) (_ ++ [((ps[i] : Nat) : Int)]) = _
    rw [cutP_snoc, cutP_cop ps h hd i (by omega), copL_step (h _ hm).1 (h _ hm).2 fun q hq => ⟨(h q (List.mem_of_mem_take hq)).1, (h q (List.mem_of_mem_take hq)).2, fun e => ?_⟩]
    · have h1 := Nat.div_le_self (copL (ps.take i) n) ps[i]
      rw [← Int.natCast_ediv]
      omega
    · obtain ⟨j, hj, e2⟩ := List.mem_iff_getElem.mp hq
      rw [List.length_take] at hj
      rw [List.getElem_take, e] at e2
      have := (List.getElem_inj hd).mp e2
      omega
/-- the totient by the parts -/
theorem parts_phi {n : Nat} {ps : List (Int × Int)} {r : Int} (hn : n ≤ 3000) (h : Parts (n : Int) ps r) : cutP (n : Int) (ps.map (·.1) ++ if r > 1 then [r] else []) = (phi n : Nat) := by
  have hr : r > 1 → IsP r := fun z => isP_of_below (by omega) 998 (by decide) (by
    have h1 : r ∣ (n : Int) := by rw [h.pr]; exact prodF_rest ps r
    have h2 : 0 < (n : Int) := by
      rcases Int.lt_trichotomy 0 (n : Int) with y | y | y
      · exact y
      · exfalso
        have h3 : ∀ (ps : List (Int × Int)) (r : Int), (∀ q ∈ ps, IsP q.1 ∧ q.1 ≤ 997 ∧ 1 ≤ q.2) → 1 ≤ r → 1 ≤ prodF r ps := fun ps => by
          induction ps with
          | nil => intro r _ h; exact h
          | cons q ps ih =>
            intro r hq hr
            refine ih _ (fun q' h => hq q' (List.mem_cons_of_mem _ h)) ?_
            show 1 ≤ r * q.1 ^ q.2.toNat
            have := (hq q List.mem_cons_self).1.1
            have h5 : 0 < q.1 ^ q.2.toNat := Int.pow_pos (by omega)
            have := Int.mul_pos (show 0 < r by omega) h5
            omega
        have := h3 ps r h.pm h.r1
        rw [← h.pr] at this
        omega
      · omega
    have := Int.le_of_dvd h2 h1
    omega) fun e h1 h2 => h.no e h1 (by omega)
  obtain ⟨P, hP⟩ : ∃ P : List Nat, P.map (fun q : Nat => (q : Int)) = ps.map (·.1) ++ if r > 1 then [r] else [] := ⟨(ps.map (·.1) ++ if r > 1 then [r] else []).map Int.toNat, by
    rw [List.map_map]
    refine Eq.trans (List.map_congr_left fun q hq => ?_) (List.map_id _)
    show ((q.toNat : Nat) : Int) = q
    rcases List.mem_append.mp hq with hq | hq
    · obtain ⟨a, ha, rfl⟩ := List.mem_map.mp hq
      have := (h.pm a ha).1.1
      omega
    · split at hq
      · rw [List.mem_singleton.mp hq]; omega
      · cases hq⟩
  have hmem : ∀ q : Nat, q ∈ P ↔ ((q : Int) ∈ ps.map (·.1) ++ if r > 1 then [r] else []) := fun q => by
    rw [← hP, List.mem_map]
    constructor
    · intro z; exact ⟨q, z, rfl⟩
    · rintro ⟨a, ha, e⟩
      have : a = q := by omega
      exact this ▸ ha
  have hpr : ∀ q : Nat, q ∈ P ↔ isP q ∧ q ∣ n := fun q => by
    rw [hmem, ← isP_cast, ← Int.natCast_dvd_natCast]
    constructor
    · intro hq
      rcases List.mem_append.mp hq with hq | hq
      · obtain ⟨a, ha, e⟩ := List.mem_map.mp hq
        obtain ⟨h1, h2, h3⟩ := h.pm a ha
        rw [← e]
        refine ⟨h1, ?_⟩
        rw [h.pr]
        exact Int.dvd_trans (pow_dvd1 a.1 (by omega)) (prodF_dvd ha)
      · split at hq
        · rename_i z
          rw [List.mem_singleton.mp hq]
          refine ⟨hr z, ?_⟩
          rw [h.pr]
          exact prodF_rest ps r
        · cases hq
    · rintro ⟨h1, h2⟩
      rw [h.pr] at h2
      rcases prime_prod h1 h2 with y | ⟨a, ha, y⟩
      · have hr1 : r > 1 := by
          have := Int.le_of_dvd (by have := h.r1; omega) y
          have := h1.1
          omega
        rw [if_pos hr1]
        exact List.mem_append_right _ (List.mem_singleton.mpr (isP_eq h1 (hr hr1) y))
      · rw [isP_eq h1 (h.pm a ha).1 y]
        exact List.mem_append_left _ (List.mem_map_of_mem ha)
  have hnd : P.Nodup := by
    have h1 : (ps.map (·.1) ++ if r > 1 then [r] else []).Nodup := by
      refine List.nodup_append.mpr ⟨?_, ?_, ?_⟩
      · unfold List.Nodup
        rw [List.pairwise_map]
        exact h.so.imp fun {a b} z e => by omega
      · split
        · exact List.pairwise_singleton ..
        · exact List.nodup_nil
      · intro a ha b hb e
        split at hb
        · rw [List.mem_singleton.mp hb] at e
          obtain ⟨q, hq, rfl⟩ := List.mem_map.mp ha
          obtain ⟨a1, a2, a3⟩ := h.pm q hq
          exact h.no q.1 a1.1 a2 (by rw [e]; exact Int.dvd_refl _)
        · cases hb
    rw [← hP] at h1
    exact h1.of_map _ fun a b z e => z (by omega)
  have e := cutP_cop P (fun q hq => (hpr q).mp hq) hnd P.length (Nat.le_refl _)
  rw [List.take_length, hP, copL_phi hpr] at e
  exact e
/-! ### the table by divisors -/
def gD (D m : Nat) : Int := (m : Int) - (tot (fun e => if e ∣ m ∧ e < m then phi e else 0) D : Nat)
theorem gD_succ (D m : Nat) : gD (D + 1) m = gD D m - if D + 1 ∣ m ∧ D + 1 < m then (phi (D + 1) : Int) else 0 := by
  unfold gD
  rw [tot]
  split <;> omega
theorem gD_done {D m : Nat} (h : m ≤ D + 1) : gD D m = (phi m : Nat) := by
  rcases Nat.eq_zero_or_pos m with z | z
  · subst z
    unfold gD
    have : ∀ D, tot (fun e => if e ∣ 0 ∧ e < 0 then phi e else 0) D = 0 := fun D => by
      induction D with
      | zero => rfl
      | succ D ih => rw [tot, ih, if_neg (by omega)]
    rw [this]; rfl
  · obtain ⟨j, rfl⟩ : ∃ j, m = j + 1 := ⟨m - 1, by omega⟩
    have g := gauss_phi (n := j + 1) (by omega)
    rw [tot, if_pos (Nat.dvd_refl _)] at g
    have e : ∀ t, tot (fun e => if e ∣ j + 1 ∧ e < j + 1 then phi e else 0) (j + t) = tot (fun d => if d ∣ j + 1 then phi d else 0) j := fun t => by
      induction t with
      | zero =>
        refine tot_congr fun d h1 h2 => ?_
        by_cases y : d ∣ j + 1
        · rw [if_pos y, if_pos ⟨y, by omega⟩]
        · rw [if_neg y, if_neg fun q => y q.1]
      | succ t ih => rw [← Nat.add_assoc, tot, ih, if_neg (by omega), Nat.add_zero]
    have := e (D - j)
    rw [show j + (D - j) = D by omega] at this
    unfold gD
    rw [this]
    omega
/-! ### the sieve -/
def prL (p m : Nat) : List Nat := (List.range p).filter fun q => primeB q && decide (m % q = 0)
theorem prL_mem {p m q : Nat} : q ∈ prL p m ↔ q < p ∧ isP q ∧ q ∣ m := by
  unfold prL
  rw [List.mem_filter, List.mem_range, Bool.and_eq_true, primeB_isP, decide_eq_true_eq]
  exact ⟨fun ⟨a, b, c⟩ => ⟨a, b, Nat.dvd_of_mod_eq_zero c⟩, fun ⟨a, b, c⟩ => ⟨a, b, Nat.mod_eq_zero_of_dvd c⟩⟩
/-- the table behind all primes below p -/
def sv (p m : Nat) : Nat := copL (prL p m) m
theorem prL_succ (p m : Nat) : prL (p + 1) m = prL p m ++ if primeB p = true ∧ p ∣ m then [p] else [] := by
  unfold prL
  rw [List.range_succ, List.filter_append]
  congr 1
  by_cases h : primeB p = true ∧ p ∣ m
  · rw [if_pos h, List.filter_cons, if_pos (by rw [Bool.and_eq_true, decide_eq_true_eq]; exact ⟨h.1, Nat.mod_eq_zero_of_dvd h.2⟩)]; rfl
  · rw [if_neg h, List.filter_cons, if_neg (by rw [Bool.and_eq_true, decide_eq_true_eq]; exact fun z => h ⟨z.1, Nat.dvd_of_mod_eq_zero z.2⟩)]; rfl
theorem sv_succ (p m : Nat) : sv (p + 1) m = if primeB p = true ∧ p ∣ m then sv p m - sv p m / p else sv p m := by
  unfold sv
  rw [prL_succ]
  by_cases h : primeB p = true ∧ p ∣ m
  · rw [if_pos h, if_pos h]
    exact copL_step (primeB_isP.mp h.1) h.2 fun q hq => by
      have := prL_mem.mp hq
      exact ⟨this.2.1, this.2.2, by omega⟩
  · rw [if_neg h, if_neg h, List.append_nil]
theorem sv_two (m : Nat) : sv 2 m = m := by
  unfold sv
  have : prL 2 m = [] := by
    unfold prL
    rw [List.filter_eq_nil_iff]
    intro q hq
    rw [Bool.and_eq_true, primeB_isP]
    intro z
    have := z.1.1
    have := List.mem_range.mp hq
    omega
  rw [this]
  exact num_all fun k _ => rfl
theorem sv_prime {p : Nat} (h : 2 ≤ p) : sv p p = p ↔ isP p := by
  constructor
  · intro e
    refine Classical.byContradiction fun z => ?_
    obtain ⟨q, hq, hd⟩ := prime_dvd h
    have hqp : q < p := by
      have := Nat.le_of_dvd (by omega) hd
      rcases (by omega : q = p ∨ q < p) with y | y
      · exact absurd (y ▸ hq) z
      · exact y
    have h0 : offB (prL p p) 0 = false := by
      rw [Bool.eq_false_iff]
      intro y
      exact off_true.mp y q (prL_mem.mpr ⟨hqp, hq, hd⟩) (Nat.dvd_zero q)
    have := num_lt h0 p (by omega)
    unfold sv copL at e
    omega
  · intro hp
    unfold sv
    have : prL p p = [] := by
      unfold prL
      rw [List.filter_eq_nil_iff]
      intro q hq
      rw [Bool.and_eq_true, primeB_isP, decide_eq_true_eq]
      intro z
      have h1 := List.mem_range.mp hq
      exact hp.2 q z.1.1 h1 (Nat.dvd_of_mod_eq_zero z.2)
    rw [this]
    exact num_all fun k _ => rfl
theorem sv_done {p m : Nat} (h : m < p) : sv p m = phi m := by
  rcases Nat.eq_zero_or_pos m with z | z
  · subst z; rfl
  · exact copL_phi fun q => by
      rw [prL_mem]
      exact ⟨fun y => y.2, fun y => ⟨by have := Nat.le_of_dvd z y.2; omega, y⟩⟩
theorem sv_le (p m : Nat) : sv p m ≤ m := num_le _ _
theorem phi_le (m : Nat) : phi m ≤ m := num_le _ _
/-- the sum of the totients up to h -/
def phiS (h : Nat) : Int := ((List.range (h + 1)).map fun m => (phi m : Int)).sum
end Sn

/-! Sn: list(range(n)), sums of owned lists, loops over a list or a tuple. -/
namespace Sn
open PySem PySem.Spec PyProof.Rows L2 RZ
theorem rgV_ints (n : Nat) : rgV 0 (n : Int) = ((List.range n).map fun i : Nat => (i : Int)).map V.int := by
  unfold rgV
  rw [List.map_map, show ((n : Int) - 0).toNat = n by omega]
  refine List.map_congr_left fun i _ => ?_
  show V.int (0 + (i : Int)) = V.int (i : Int)
  rw [Int.zero_add]
section
variable {E : En} {ε : Ep} {μ : Mu} {ta : TE} {Ψ : W → Mu → Prop} {l : Addr} {k : Nat} {ns : List Int}
theorem re_listRg (h : RE E ta ε μ fun w μ1 => ∃ (m : Int) (n : Nat), w = .i m ∧ m = (n : Int) ∧ n ≤ 16777216 ∧ ∀ l, Ψ (.at l) ((l, .lst (iw ((List.range n).map fun i : Nat => (i : Int)))) :: μ1)) : RE E (tLstRg (tRg1 ta)) ε μ Ψ := fun σ G H C X Q k => h σ G H C X _ fun v w G1 H1 μ1 S1 s1 r ⟨m, n, e, em, hn, q⟩ => by
  subst e
  subst em
  cases r
  refine ⟨(n : Int), rfl, RgOk.of_le (by omega) (by omega) (by omega) (by omega), fun p hp => ?_⟩
  rw [rgV_ints]
  exact k _ (.at p) _ _ _ (S1.newO (c := .lst (iw ((List.range n).map fun i : Nat => (i : Int)))) hp (show WrA _ _ _ _ from (dra_ints _).ws)) (s1.trans (.newO S1 hp)) rfl (q p)
theorem vc_sumA (hm : μ[k]? = some (l, .lst (iw ns))) : VC E (rSum E.K) [.at l] μ (.i ns.sum) := fun G H S vs rs Q q => by
  cases rs with
  | cons r t =>
    cases t
    cases r
    obtain ⟨_, xs, hx, rx⟩ := S.lst hm
    have e := DrA.ints (WrA.dats rx)
    subst e
    exact ⟨l, ns, rfl, SqL.of hx, q _ (Dr.int _)⟩
end
/-- for over a list or a tuple -/
def iSeq (K : PySem.W.Frag) (te : TE) : TI := fun σ H R => te σ H fun v H1 => ∃ a, v = .ref a ∧ (((∃ xs, SqL K H1 a xs) ∧ R (Itl K a) H1) ∨ ((∃ xs, SqT K H1 a xs) ∧ R (Itt K a) H1))
theorem pi_seq {X : Cx} {tg l : Expr} {tl : TE} (hl : PE X l tl) : PI X tg l (iSeq X.K tl) := by
  refine ⟨fun pins s σ H R I h => ?_⟩
  refine thn (hl.run pins s σ H _ I h) fun v s1 ⟨x, H1, I1, r1, q1⟩ => ?_
  obtain ⟨a, e, q1⟩ := q1
  subst e
  cases r1
  rcases q1 with ⟨⟨xs, hq⟩, q⟩ | ⟨⟨xs, hq⟩, q⟩
  · obtain ⟨its, rv, p, hz⟩ := I1.list hq
    refine wpAny_pyIter_list p.isList ?_
    refine ⟨s1.heap.objs.size, [s1.heap.objs.size], _, _, H1, rfl, I1.kept (t' := s1.toks) fun b o e => Heap.get?_push_of_some _ e, turn_list a _, ⟨_, Heap.get?_push_size _ rfl, rfl, rfl⟩, fun b hb => ?_, q⟩
    have e : b = s1.heap.objs.size := by simpa using hb
    subst e
    exact I1.fpOk (Nat.le_refl _) (I1.hok.fresh (Nat.le_refl _))
  · obtain ⟨its, rv, p, hz⟩ := I1.tuple hq
    refine wpAny_pyIter_tuple (show s1.heap.IsTuple a its.toArray from p) ?_
    refine ⟨s1.heap.objs.size, [s1.heap.objs.size], _, _, H1, rfl, I1.kept (t' := s1.toks) fun b o e => Heap.get?_push_of_some _ e, turn_tuple a _, ⟨_, Heap.get?_push_size _ rfl, rfl, rfl⟩, fun b hb => ?_, q⟩
    have e : b = s1.heap.objs.size := by simpa using hb
    subst e
    exact I1.fpOk (Nat.le_refl _) (I1.hok.fresh (Nat.le_refl _))
theorem ri_seq {E : En} {ε : Ep} {μ : Mu} {te : TE} {Ψ : List D → Mu → Prop} (h : RE E te ε μ fun w μ1 => ∃ d ds, w = .dat d ∧ d.seq = some ds ∧ Ψ ds μ1) : RI E (iSeq E.K te) ε μ Ψ := fun σ G H C X R k => h σ G H C X _ fun v w G1 H1 μ1 S1 s1 r ⟨d, ds, e, hs, q⟩ => by
  subst e
  obtain ⟨a, xs, rfl, hq, ha⟩ := Dr.seqOf (show Dr E.K G1 v d from r) hs
  refine ⟨a, rfl, ?_⟩
  rcases hq with hq | hq
  · refine .inl ⟨⟨xs, Evl.ex_l S1.gh hq⟩, ?_⟩
    refine k (Itl E.K a) ds (fun H' => SqL E.K H' a xs) (YAt xs) G1 H1 μ1 S1 s1 (by rw [← ha.length]; exact walk_list) (fun H' e => Evl.ex_l e hq) (fun i H' x H'' G' μ' S' e' hi y => ?_) q
    obtain ⟨rfl, hx⟩ := y
    obtain ⟨d, h1, h2⟩ := ha.get' hx
    exact ⟨G', d, S', .refl μ' G' _, h1, h2.up e'⟩
  · refine .inr ⟨⟨xs, Evl.ex_t S1.gh hq⟩, ?_⟩
    refine k (Itt E.K a) ds (fun H' => SqT E.K H' a xs) (YAt xs) G1 H1 μ1 S1 s1 (by rw [← ha.length]; exact walk_tup) (fun H' e => Evl.ex_t e hq) (fun i H' x H'' G' μ' S' e' hi y => ?_) q
    obtain ⟨rfl, hx⟩ := y
    obtain ⟨d, h1, h2⟩ := ha.get' hx
    exact ⟨G', d, S', .refl μ' G' _, h1, h2.up e'⟩
/-- an owned table of ints by a function -/
def tabI (N : Nat) (F : Nat → Int) : List Int := (List.range N).map F
theorem tab_rwl (N : Nat) (F : Nat → Int) : rwl N F = iw (tabI N F) := rwl_dat N F
theorem tab_id (N : Nat) : iw ((List.range N).map fun i : Nat => (i : Int)) = rwl N fun i => (i : Int) := (rwl_dat N _).symm
section
variable {E : En} {ε : Ep} {μ : Mu} {te tb : TE} {Ψ : W → Mu → Prop} {r : V → Option Int → Option Int → Hp → VK → Prop}
/-- a slice whose upper end is worked out -/
theorem re_slH (h : RE E te ε μ fun w μ1 => RE E tb ε μ1 fun wi μ2 => ∃ i, wi = .i i ∧ RSl E r w none (some i) μ2 Ψ) : RE E (tSl r te tNoPart (tPart tb)) ε μ Ψ := fun σ G H C X Q k =>
  h σ G H C X _ fun v w G1 H1 μ1 S1 s1 r1 h1 => h1 σ G1 H1 (C.to S1 s1) (X.to s1) _ fun v2 w2 G2 H2 μ2 S2 s2 r2 ⟨i, e, h2⟩ => by
    subst e
    cases r2
    exact ⟨i, rfl, h2 G2 H2 S2 v (r1.up s2.gg) Q fun v' w' G' H' μ' S' s' r' q => k v' w' G' H' μ' S' ((s1.trans s2).trans s') r' q⟩
theorem re_slL (h : RE E te ε μ fun w μ1 => RE E tb ε μ1 fun wi μ2 => ∃ i, wi = .i i ∧ RSl E r w (some i) none μ2 Ψ) : RE E (tSl r te (tPart tb) tNoPart) ε μ Ψ := fun σ G H C X Q k =>
  h σ G H C X _ fun v w G1 H1 μ1 S1 s1 r1 h1 => h1 σ G1 H1 (C.to S1 s1) (X.to s1) _ fun v2 w2 G2 H2 μ2 S2 s2 r2 ⟨i, e, h2⟩ => by
    subst e
    cases r2
    exact ⟨i, rfl, h2 G2 H2 S2 v (r1.up s2.gg) Q fun v' w' G' H' μ' S' s' r' q => k v' w' G' H' μ' S' ((s1.trans s2).trans s') r' q⟩
end
theorem cut_to {ds : List D} {k : Nat} (h : k ≤ ds.length) : Sn.cutD ds none (some (k : Int)) = ds.take k := by
  unfold Sn.cutD
  rw [HT.sIx_nat, HT.sIx_none, List.drop_zero, Nat.sub_zero, Nat.min_eq_left h]
theorem plP : ∀ (ps : List (Int × Int)) (n : Nat), D.plL (ps.map prD) (n + 1) = true
  | [], _ => rfl
  | p :: ps, n => by
    have h1 : ∀ (i : Int) (n : Nat), (D.int i).pl n = true := fun i n => by cases n <;> rfl
    have e : (prD p).pl (n + 1) = true := by
      unfold prD
      rw [D.pl, D.plL, D.plL, D.plL, h1, h1]; rfl
    rw [List.map_cons, D.plL, e, plP ps n]; rfl
theorem gcd_mul_one {a b m : Int} (h1 : Int.gcd a m = 1) (h2 : Int.gcd b m = 1) : Int.gcd (a * b) m = 1 := by
  unfold Int.gcd at *
  rw [Int.natAbs_mul]
  exact Nat.Coprime.mul_left h1 h2
theorem pow_bits {n : Int} {p : Int} {e : Nat} (hn : 1 ≤ n) (hp : 2 ≤ p) (h : p ^ e ∣ n) : e ≤ Builtin.Int.intBits n := by
  have h1 := Int.le_of_dvd (by omega) h
  have h2 := bits_lt (n := n) (by omega)
  have h3 : (2 : Int) ^ e ≤ p ^ e := by
    clear h h1 h2
    induction e with
    | zero => rw [Int.pow_zero, Int.pow_zero]; exact Int.le_refl 1
    | succ e ih =>
      rw [Int.pow_succ, Int.pow_succ]
      exact Int.mul_le_mul ih hp (by decide) (Int.pow_nonneg (by omega))
  refine Classical.byContradiction fun z => ?_
  have h4 : 2 ^ Builtin.Int.intBits n ≤ 2 ^ e := Nat.pow_le_pow_right (by decide) (by omega)
  have h5 : ((2 ^ e : Nat) : Int) = (2 : Int) ^ e := Int.natCast_pow 2 e
  omega
theorem AllOf.app {α : Type} {P : α → Prop} {ys : List α} (h2 : AllOf P ys) : ∀ {xs : List α}, AllOf P xs → AllOf P (xs ++ ys)
  | [], _ => h2
  | _ :: _, h => ⟨h.1, AllOf.app h2 h.2⟩
end Sn

/-! Sn: list comprehensions of two clauses. -/
namespace Sn
open PySem PySem.Spec PyProof.Rows L2 RZ
section
variable {E : En} {ε : Ep} {μ : Mu} {te : TE} {tt tt1 : TT} {wi wi1 : TI} {g g1 : TG} {vs vs1 : List Nat} {Ψ : W → Mu → Prop}
theorem re_lc2 (hi : RI E wi ε μ fun ds μ1 => ∃ P : Nat → List W → Mu → Prop, P 0 [] μ1 ∧
    (∀ (i : Nat) d acc μ2, ds[i]? = some d → P i acc μ2 → RGW E.mute vs g (.dat d) (wipeE ε vs) μ2 fun ε2 μ3 => RT E.mute tt ε2 μ3 fun b μ4 =>
      (b = true → RI E.mute wi1 ε2 μ4 fun ds1 μ5 => ∃ P1 : Nat → List W → Mu → Prop, P1 0 acc μ5 ∧
        (∀ (j : Nat) d1 acc1 μ6, ds1[j]? = some d1 → P1 j acc1 μ6 → RGW E.mute vs1 g1 (.dat d1) (wipeE ε2 vs1) μ6 fun ε3 μ7 => RT E.mute tt1 ε3 μ7 fun b1 μ8 =>
          (b1 = true → RE E.mute te ε3 μ8 fun w μ9 => acc1.length < sizeLine ∧ P1 (j + 1) (acc1 ++ [w]) μ9) ∧ (b1 = false → P1 (j + 1) acc1 μ8)) ∧
        ∀ acc1 μ6, P1 ds1.length acc1 μ6 → P (i + 1) acc1 μ6) ∧ (b = false → P (i + 1) acc μ4)) ∧
    ∀ acc μ2, P ds.length acc μ2 → DL acc μ2 Ψ) : RE E (tLc2 wi g tt wi1 g1 tt1 te vs vs1) ε μ Ψ := fun σ G H C X Q k =>
  hi σ G H C X _ fun J ds Gi Y G1 H1 μ1 S1 s1 w hg hy ⟨P, h0, hs, hd⟩ => by
    intro D hD
    have xm : ∀ {μ : Mu} {G H : Hp}, XOk E.mute μ G H := fun {μ G H} _ _ _ _ _ _ _ _ _ _ _ z => z.elim
    refine ⟨fun i m H' => m = ds.length - i ∧ i ≤ ds.length ∧ ∃ G' μ' acc, Hold E.K G' H' ((D, .lst acc) :: μ') ∧ Since μ1 G1 H1 G' H' ((D, .lst acc) :: μ') ∧ P i acc μ',
      ⟨ds.length, by simp, Nat.zero_le _, G1, μ1, [], S1.newO (c := .lst []) hD (show WrA _ _ [] [] from .nil), .newO S1 hD, h0⟩, ?_⟩
    rintro i m H' ⟨rfl, hin, G', μ', acc, S', s', p⟩
    have q0 : Gi H' := hg H' (s'.gg.trans S'.gh)
    by_cases hlt : i < ds.length
    · refine .inr ⟨w.goes i H' hlt q0, fun H' => ∃ G' μ' acc, Hold E.K G' H' ((D, .lst acc) :: μ') ∧ Since μ1 G1 H1 G' H' ((D, .lst acc) :: μ') ∧ P (i + 1) acc μ', fun H'' p'' => ⟨ds.length - (i + 1), by omega, rfl, hlt, p''⟩, fun x H2 y => ?_⟩
      obtain ⟨G2, d, S2, s2, hd1, rd⟩ := hy i H' x H2 G' _ S' s'.gg hlt (w.yields i H' x H2 hlt q0 y)
      have sl : Slots E.K G2 (L2.wipe σ vs) (wipeE ε vs) := (C.slots.wipe vs).up ((s1.gg.trans s'.gg).trans s2.gg)
      refine hs i d acc μ' hd1 p (L2.wipe σ vs) G2 H2 ⟨S2.tail 1, sl⟩ x (show Wr E.K G2 x (.dat d) from rd) _ fun σ3 ε3 G3 H3 μ3 S3 s3 w3 q3 => ?_
      refine ⟨w3.trans (wipe_c vs fun i hi => hi), ?_⟩
      have F3 : Hold E.K G3 H3 ((D, .lst acc) :: μ3) := S2.frame 1 S3.hold s3
      have f3 : Since _ G2 H2 G3 H3 ((D, .lst acc) :: μ3) := Since.frame (K := E.K) (μ := (D, .lst acc) :: μ') 1 s3
      refine q3 σ3 G3 H3 S3 xm _ fun b G4 H4 μ4 S4 s4 q4 => ?_
      have F4 : Hold E.K G4 H4 ((D, .lst acc) :: μ4) := F3.frame 1 S4 s4
      have f4 : Since ((D, .lst acc) :: μ3) G3 H3 G4 H4 ((D, .lst acc) :: μ4) := Since.frame (K := E.K) (μ := (D, .lst acc) :: μ3) 1 s4
      have t4 := ((s'.trans s2).trans f3).trans f4
      cases b with
      | false => exact ⟨G4, μ4, acc, F4, t4, q4.2 rfl⟩
      | true =>
        have C4 := S3.to S4 s4
        refine q4.1 rfl σ3 G4 H4 C4 xm _ fun J1 ds1 Gi1 Y1 G5 H5 μ5 S5 s5 w1 hg1 hy1 ⟨P1, p10, hs1, hd1⟩ => ?_
        have F5 : Hold E.K G5 H5 ((D, .lst acc) :: μ5) := F4.frame 1 S5 s5
        have f5 : Since ((D, .lst acc) :: μ4) G4 H4 G5 H5 ((D, .lst acc) :: μ5) := Since.frame (K := E.K) (μ := (D, .lst acc) :: μ4) 1 s5
        have t5 := t4.trans f5
        refine ⟨fun j k H' => k = ds1.length - j ∧ j ≤ ds1.length ∧ ∃ G' μ' acc', Hold E.K G' H' ((D, .lst acc') :: μ') ∧ Since ((D, .lst acc) :: μ5) G5 H5 G' H' ((D, .lst acc') :: μ') ∧ P1 j acc' μ',
          ⟨ds1.length, by simp, Nat.zero_le _, G5, μ5, acc, F5, .refl _ G5 H5, p10⟩, ?_⟩
        rintro j k H6 ⟨rfl, hjn, G6, μ6, acc6, F6, f6, p6⟩
        have q6 : Gi1 H6 := hg1 H6 (f6.gg.trans F6.gh)
        by_cases hjl : j < ds1.length
        · refine .inr ⟨w1.goes j H6 hjl q6, fun H' => ∃ G' μ' acc', Hold E.K G' H' ((D, .lst acc') :: μ') ∧ Since ((D, .lst acc) :: μ5) G5 H5 G' H' ((D, .lst acc') :: μ') ∧ P1 (j + 1) acc' μ', fun H'' p'' => ⟨ds1.length - (j + 1), by omega, rfl, hjl, p''⟩, fun x1 H7 y1 => ?_⟩
          obtain ⟨G7, d1, S7, s7, hd7, r7⟩ := hy1 j H6 x1 H7 G6 _ F6 f6.gg hjl (w1.yields j H6 x1 H7 hjl q6 y1)
          have sl7 : Slots E.K G7 (L2.wipe σ3 vs1) (wipeE ε3 vs1) := (C4.slots.wipe vs1).up ((s5.gg.trans f6.gg).trans s7.gg)
          refine hs1 j d1 acc6 μ6 hd7 p6 (L2.wipe σ3 vs1) G7 H7 ⟨S7.tail 1, sl7⟩ x1 (show Wr E.K G7 x1 (.dat d1) from r7) _ fun σ8 ε8 G8 H8 μ8 S8 s8 w8 q8 => ?_
          refine ⟨w8.trans (wipe_c vs1 fun i hi => hi), ?_⟩
          have F8 : Hold E.K G8 H8 ((D, .lst acc6) :: μ8) := S7.frame 1 S8.hold s8
          have f8 : Since _ G7 H7 G8 H8 ((D, .lst acc6) :: μ8) := Since.frame (K := E.K) (μ := (D, .lst acc6) :: μ6) 1 s8
          refine q8 σ8 G8 H8 S8 xm _ fun b1 G9 H9 μ9 S9 s9 q9 => ?_
          have F9 : Hold E.K G9 H9 ((D, .lst acc6) :: μ9) := F8.frame 1 S9 s9
          have f9 : Since ((D, .lst acc6) :: μ8) G8 H8 G9 H9 ((D, .lst acc6) :: μ9) := Since.frame (K := E.K) (μ := (D, .lst acc6) :: μ8) 1 s9
          have t9 := ((f6.trans s7).trans f8).trans f9
          cases b1 with
          | false => exact ⟨G9, μ9, acc6, F9, t9, q9.2 rfl⟩
          | true =>
            refine q9.1 rfl σ8 G9 H9 (S8.to S9 s9) xm _ fun v w0 G0 H0 μ0 S0 s0 r0 ⟨hz, p0⟩ => ?_
            have F0 : Hold E.K G0 H0 ((D, .lst acc6) :: μ0) := F9.frame 1 S0 s0
            have f0 : Since ((D, .lst acc6) :: μ9) G9 H9 G0 H0 ((D, .lst acc6) :: μ0) := Since.frame (K := E.K) (μ := (D, .lst acc6) :: μ9) 1 s0
            obtain ⟨_, xs, hx, rx⟩ := F0.lst (k := 0) rfl
            refine ⟨xs, hx, by rw [Paired.length rx]; exact hz, G0, μ0, acc6 ++ [w0], ?_, ?_, p0⟩
            · exact F0.write (k := 0) (o := .lst (xs ++ [v])) (c' := .lst (acc6 ++ [w0])) rfl (show WrA _ _ _ _ from WrA.snoc r0 rx)
            · exact (t9.trans f0).trans (Since.write (k := 0) (c' := .lst (acc6 ++ [w0])) F0 rfl)
        · have e : j = ds1.length := by omega
          subst e
          exact .inl ⟨w1.stops H6 q6, G6, μ6, acc6, F6, t5.trans f6, hd1 acc6 μ6 p6⟩
    · have e : i = ds.length := by omega
      subst e
      refine .inl ⟨w.stops H' q0, ?_⟩
      have t := s1.trans s'
      rcases hd acc μ' p with ⟨es, hu, hz, q⟩ | ⟨hz, q⟩
      · have e := undat_ws hu
        subst e
        obtain ⟨hg', xs, hx, rx⟩ := S'.lst (k := 0) rfl
        have n0 : H D = none := by
          cases z : H D with
          | none => rfl
          | some o => exact absurd hD (s1.there D (by rw [z]; simp))
        have S2 : Hold E.K (upd G' D (.lst xs)) H' μ' := S'.frz (k := 0) rfl hx
        refine k _ (.dat (.lst es)) _ _ μ' S2 ⟨t.gg.trans (ex_new hg'), t.keep, t.there, fun a ha hm => ?_, fun q hq => t.own q (List.mem_cons_of_mem _ hq)⟩ (Dr.lst (SqL.of upd_same) ((WrA.dats rx).up (ex_new hg'))) q
        rw [upd_ne (fun z => ha (by rw [z]; exact n0))]
        exact t.new a ha hm
      · exact k _ (.at D) _ _ _ S' t rfl (q D)
end
/-! ### the readings found in the block's surroundings -/
section
variable {X : Cx} {elt tg iter tg1 iter1 : Expr} {ifs ifs1 : List Expr} {scope : Scope} {own : List (Str × Nat)} {vs1 : List Nat} {pos : Pos} {wi wi1 : TI} {g g1 : TG} {tt tt1 : TT} {te : TE}
  {g' g1' : Shared → Hp → Addr → List (Str × Addr) → List Addr → TG} {tt' tt1' : Shared → Hp → Addr → List (Str × Addr) → List Addr → TT} {te' : Shared → Hp → Addr → List (Str × Addr) → List Addr → TE} {wi1' : Shared → Hp → Addr → List (Str × Addr) → List Addr → TI}
theorem pe_lc2D (hc : X.calm = true) (hN : X.N.Nodup) (hi : PI X tg iter wi) (ok : BlkOk X.N X.env.scope scope own) (hv : ∀ i ∈ vs1, i ∈ own.map (·.2))
    (hg : ∀ s H C cl fp, PG (X.blk s H scope (compEnvC scope cl C X.env) fp) tg (g' s H C cl fp)) (ht : ∀ s H C cl fp, PTs (X.blk s H scope (compEnvC scope cl C X.env) fp) ifs (tt' s H C cl fp))
    (hi1 : ∀ s H C cl fp, PI (X.blk s H scope (compEnvC scope cl C X.env) fp) tg1 iter1 (wi1' s H C cl fp))
    (hg1 : ∀ s H C cl fp, PG (X.blk s H scope (compEnvC scope cl C X.env) fp) tg1 (g1' s H C cl fp)) (ht1 : ∀ s H C cl fp, PTs (X.blk s H scope (compEnvC scope cl C X.env) fp) ifs1 (tt1' s H C cl fp))
    (he : ∀ s H C cl fp, PE (X.blk s H scope (compEnvC scope cl C X.env) fp) elt (te' s H C cl fp)) (hs : ∀ x, foldedSetIterable iter X.env x = pure x) (hs1 : ∀ env x, foldedSetIterable iter1 env x = pure x)
    (e1 : ∀ s H C cl fp, g' s H C cl fp = g) (e2 : ∀ s H C cl fp, tt' s H C cl fp = tt) (e3 : ∀ s H C cl fp, te' s H C cl fp = te) (e4 : ∀ s H C cl fp, wi1' s H C cl fp = wi1) (e5 : ∀ s H C cl fp, g1' s H C cl fp = g1) (e6 : ∀ s H C cl fp, tt1' s H C cl fp = tt1) :
    PE X (.ListComp elt [⟨tg, iter, ifs, 0⟩, ⟨tg1, iter1, ifs1, 0⟩] scope pos) (tLc2 wi g tt wi1 g1 tt1 te (own.map (·.2)) vs1) :=
  pe_lc2 hc hN hi ok hv (fun s H C cl fp => by rw [← e1 s H C cl fp]; exact hg s H C cl fp) (fun s H C cl fp => by rw [← e2 s H C cl fp]; exact ht s H C cl fp) (fun s H C cl fp => by rw [← e4 s H C cl fp]; exact hi1 s H C cl fp)
    (fun s H C cl fp => by rw [← e5 s H C cl fp]; exact hg1 s H C cl fp) (fun s H C cl fp => by rw [← e6 s H C cl fp]; exact ht1 s H C cl fp) (fun s H C cl fp => by rw [← e3 s H C cl fp]; exact he s H C cl fp) hs hs1
theorem ps_setLc2D {i : Nat} {y : Str} {py spos : Pos} (hc : X.calm = true) (hN : X.N.Nodup) (hy : X.N[i]? = some y) (hyl : X.env.scope.names.lookup y = some .local)
    (hsw : swapsWith (.ListComp elt [⟨tg, iter, ifs, 0⟩, ⟨tg1, iter1, ifs1, 0⟩] scope pos) (some (.Name y py)) spos.line X.env = pure true) (hi : PI X tg iter wi) (ok : BlkOk X.N X.env.scope scope own) (hv : ∀ i ∈ vs1, i ∈ own.map (·.2))
    (hg : ∀ s H C cl fp, PG (X.blk s H scope (compEnvC scope cl C X.env) fp) tg (g' s H C cl fp)) (ht : ∀ s H C cl fp, PTs (X.blk s H scope (compEnvC scope cl C X.env) fp) ifs (tt' s H C cl fp))
    (hi1 : ∀ s H C cl fp, PI (X.blk s H scope (compEnvC scope cl C X.env) fp) tg1 iter1 (wi1' s H C cl fp))
    (hg1 : ∀ s H C cl fp, PG (X.blk s H scope (compEnvC scope cl C X.env) fp) tg1 (g1' s H C cl fp)) (ht1 : ∀ s H C cl fp, PTs (X.blk s H scope (compEnvC scope cl C X.env) fp) ifs1 (tt1' s H C cl fp))
    (he : ∀ s H C cl fp, PE (X.blk s H scope (compEnvC scope cl C X.env) fp) elt (te' s H C cl fp)) (hs : ∀ x, foldedSetIterable iter X.env x = pure x) (hs1 : ∀ env x, foldedSetIterable iter1 env x = pure x)
    (e1 : ∀ s H C cl fp, g' s H C cl fp = g) (e2 : ∀ s H C cl fp, tt' s H C cl fp = tt) (e3 : ∀ s H C cl fp, te' s H C cl fp = te) (e4 : ∀ s H C cl fp, wi1' s H C cl fp = wi1) (e5 : ∀ s H C cl fp, g1' s H C cl fp = g1) (e6 : ∀ s H C cl fp, tt1' s H C cl fp = tt1) :
    PS X (.Assign [.Name y py] (.ListComp elt [⟨tg, iter, ifs, 0⟩, ⟨tg1, iter1, ifs1, 0⟩] scope pos) spos) (tAsg (tLc2 wi g tt wi1 g1 tt1 te (own.map (·.2)) vs1) (gName i)) :=
  ps_setLc2 hc hN hy hyl hsw hi ok hv (fun s H C cl fp => by rw [← e1 s H C cl fp]; exact hg s H C cl fp) (fun s H C cl fp => by rw [← e2 s H C cl fp]; exact ht s H C cl fp) (fun s H C cl fp => by rw [← e4 s H C cl fp]; exact hi1 s H C cl fp)
    (fun s H C cl fp => by rw [← e5 s H C cl fp]; exact hg1 s H C cl fp) (fun s H C cl fp => by rw [← e6 s H C cl fp]; exact ht1 s H C cl fp) (fun s H C cl fp => by rw [← e3 s H C cl fp]; exact he s H C cl fp) hs hs1
end
end Sn

/-! Sn: l[::-1], t < u, l.index(x). -/
namespace Sn
open PySem PySem.Spec PyProof.Rows L2 RZ
theorem room65 {k : Nat} {A : Around} (r : Room k A) : A.units + 65 < cLine := by have := r.un; omega
theorem pick_all {α : Type} (xs : List α) : (List.range xs.length).filterMap (xs[·]?) = xs := by
  have h := pick_run xs.toArray 0 xs.length
  rw [show ((List.range xs.length).map (0 + ·)) = List.range xs.length by
    rw [show (fun x : Nat => 0 + x) = id by funext x; exact Nat.zero_add x, List.map_id]] at h
  simpa using h
theorem fm_congr {α β : Type} {f g : α → Option β} : ∀ {l : List α}, (∀ x ∈ l, f x = g x) → l.filterMap f = l.filterMap g
  | [], _ => rfl
  | x :: l, h => by rw [List.filterMap_cons, List.filterMap_cons, h x List.mem_cons_self, fm_congr fun y hy => h y (List.mem_cons_of_mem _ hy)]
theorem slicePick_rev (items : Array Value) : slicePick items none none (some (-1)) = items.toList.reverse.toArray := by
  unfold slicePick
  congr 1
  have e : sliceBounds none none (some (-1)) items.size = ((items.size : Int) - 1, -1, -1) := rfl
  rw [e]
  have r : sliceRange ((items.size : Int) - 1) (-1) (-1) = (List.range items.size).map fun k => items.size - 1 - k := by
    unfold sliceRange
    rw [if_neg (by decide : ¬ ((-1 : Int) > 0))]
    have c : (if (items.size : Int) - 1 > -1 then ((items.size : Int) - 1 - -1 - -1 - 1) / (- -1) else 0).toNat = items.size := by
      split
      · rw [show (items.size : Int) - 1 - -1 - -1 - 1 = items.size by omega, show (- -1 : Int) = 1 by decide, Int.ediv_one]; omega
      · omega
    dsimp only
    rw [c]
    apply List.map_congr_left
    intro k hk
    omega
  rw [r, List.filterMap_map]
  have h := pick_all items.toList.reverse
  rw [List.length_reverse, Array.length_toList] at h
  rw [← h]
  apply fm_congr
  intro k hk
  have hk := List.mem_range.mp hk
  show items[items.size - 1 - k]? = items.toList.reverse[k]?
  rw [List.getElem?_reverse (by rw [Array.length_toList]; exact hk), Array.length_toList, Array.getElem?_toList]
/-- l[::-1] -/
def tRv (K : PySem.W.Frag) (te t : TE) : TE := fun σ H Q => te σ H fun x H1 => t σ H1 fun y H2 => y = .int (-1) ∧ ∃ a xs, x = .ref a ∧ SqL K H2 a xs ∧ ∀ p, H2 p = none → Q (.ref p) (upd H2 p (.lst xs.reverse))
theorem rev_vals {xs : List V} {us : List Value} (r : Vals xs us) : Vals xs.reverse us.reverse := by
  induction r with
  | nil => exact .nil
  | cons r t ih =>
    rw [List.reverse_cons, List.reverse_cons]
    have app : ∀ {xs : List V} {us : List Value} {x : V} {u : Value}, Vals xs us → RelV x u → Vals (xs ++ [x]) (us ++ [u]) := by
      intro xs us x u h r
      induction h with
      | nil => exact .cons r .nil
      | cons r1 _ ih => exact .cons r1 ih
    exact app ih r
theorem pe_rev {X : Cx} {e stp : Expr} {te t : TE} {pos p2 : Pos} (he : PE X e te) (hst : PE X stp t) : PE X (.Subscript e (.Slice none none (some stp) p2) pos) (tRv X.K te t) := by
  refine ⟨fun pins s σ H Q I h => ?_⟩
  refine Subscript_ (thn (he.run pins s σ H _ I h) fun v s1 ⟨x, H1, I1, r1, q1⟩ => ?_)
  refine wpAny_Slice ?_
  rw [evalPart_none]
  refine wpAny_pure (wpAny_pure ?_)
  rw [evalPart_some]
  refine thn (hst.run pins s1 σ H1 _ I1 q1) fun vs s3 ⟨y, H3, I3, r3, q3⟩ => ?_
  obtain ⟨rfl, a, xs, rfl, hx, q⟩ := q3
  obtain ⟨tk, rfl⟩ := r3
  cases r1
  have I4 : Inv X pins σ H3 { s3 with heap := s3.heap.push { cls := .type "slice", data := .fields #[.none, .none, .int (-1) tk] } } := I3.kept (t' := s3.toks) fun b ob q => Heap.get?_push_of_some _ q
  obtain ⟨its, r, ht, hz⟩ := I4.list hx
  have hlen := r.length
  show wpAny (model X.prog X.w) X.A (subscriptTail e (.Slice none none (some stp) p2) (.ref a) (.ref s3.heap.objs.size)) (EP X pins σ Q) X.xe { s3 with heap := s3.heap.push { cls := .type "slice", data := .fields #[.none, .none, .int (-1) tk] } }
  refine tail_any (ops := [.ref a, .ref s3.heap.objs.size]) ht.isList.typeIs slot_list_getitem.lookup ?_ (by with_unfolding_all rfl)
  refine wpAny_getItem_list_slice ht.isList (Heap.IsSliceOf.new ..) .none .none (.int (-1) tk) (by decide) ?_ (by rw [List.size_toArray] <;> omega)
  rw [slicePick_rev]
  refine ⟨.ref _, _, I4.laid (t' := s3.toks) (o := .lst xs.reverse) (fun b ob q => Heap.get?_push_of_some _ q) (Nat.le_refl _) ?_, rfl, q _ (I4.hok.fresh (Nat.le_refl _))⟩
  exact ⟨by rw [List.length_reverse]; exact hz, _, 0, rev_vals r, Heap.get?_push_size _ rfl⟩
section
variable {E : En} {ε : Ep} {μ : Mu} {te t ta : TE} {Ψ : W → Mu → Prop}
/-- frozen -/
theorem re_rev (h : RE E te ε μ fun w μ1 => ∃ ds : List D, w = .dat (.lst ds) ∧ RE E t ε μ1 fun w2 μ2 => w2 = .i (-1) ∧ Ψ (.dat (.lst ds.reverse)) μ2) : RE E (tRv E.K te t) ε μ Ψ := fun σ G H C X Q k =>
  h σ G H C X _ fun v w G1 H1 μ1 S1 s1 r1 ⟨ds, e, h1⟩ => by
    subst e
    refine h1 σ G1 H1 (C.to S1 s1) (X.to s1) _ fun v2 w2 G2 H2 μ2 S2 s2 r2 ⟨e, q⟩ => ?_
    subst e
    cases r2
    cases (show Dr E.K G1 v (.lst ds) from r1) with
    | @lst a xs _ hs ha =>
      refine ⟨rfl, a, xs, rfl, Evl.ex_l (s2.gg.trans S2.gh) hs, fun p hp => ?_⟩
      have hg := S2.gnone hp
      exact k _ (.dat (.lst ds.reverse)) _ _ μ2 (S2.newF hp) ((s1.trans s2).trans (.newF S2 hp)) (Dr.lst (SqL.of upd_same) (((WrA.dats (by rw [List.map_reverse]; exact WrA.rev ha.ws) : DrA E.K G1 xs.reverse ds.reverse).up s2.gg).up (ex_new hg))) q
theorem vo_ltT {ns ms : List Int} : VO E (rLtT E.K) (.dat (.tup (ns.map .int))) (.dat (.tup (ms.map .int))) μ (.b (HT.lexLt ns ms)) := fun G H S v1 v2 r1 r2 Q q => by
  have isI : ∀ {ns : List Int} {vs : List V}, DrA E.K G vs (ns.map .int) → vs = ns.map V.int := by
    intro ns
    induction ns with
    | nil => intro vs h; cases h; rfl
    | cons n ns ih =>
      intro vs h
      cases h with
      | cons r t => cases r; rw [ih t]; rfl
  cases (show Dr E.K G v1 (.tup (ns.map .int)) from r1) with
  | @tup a xs _ hs ha =>
    cases (show Dr E.K G v2 (.tup (ms.map .int)) from r2) with
    | @tup b ys _ hs2 ha2 =>
      rw [isI ha] at hs
      rw [isI ha2] at hs2
      exact ⟨a, b, ns, ms, rfl, rfl, Evl.ex_t S.gh hs, Evl.ex_t S.gh hs2, q _ (Dr.bl _)⟩
theorem dr_ints {K : PySem.W.Frag} {G : Hp} : ∀ (ns : List Int), DrA K G (ns.map V.int) (ns.map .int)
  | [] => .nil
  | n :: ns => .cons (Dr.int n) (dr_ints ns)
/-- sorted(l), l frozen, of ints -/
theorem rc_sortedI {ns : List Int} (q : ∀ ns' : List Int, ns'.Perm ns → ns'.Pairwise (· ≤ ·) → Ψ (.dat (.lst (ns'.map .int))) μ) : RC E (rSortedI E.K) [.dat (.lst (ns.map .int))] μ Ψ := fun G H S vs rs Q k => by
  have isI : ∀ {ns : List Int} {vs : List V}, DrA E.K G vs (ns.map .int) → vs = ns.map V.int := by
    intro ns
    induction ns with
    | nil => intro vs h; cases h; rfl
    | cons n ns ih =>
      intro vs h
      cases h with
      | cons r t => cases r; rw [ih t]; rfl
  cases rs with
  | @cons v _ _ _ r t =>
    cases t
    cases (show Dr E.K G v (.lst (ns.map .int)) from r) with
    | @lst a xs _ hs ha =>
      rw [isI ha] at hs
      refine ⟨a, ns, rfl, Evl.ex_l S.gh hs, fun ns' p h1 h2 hp => ?_⟩
      have hg := S.gnone hp
      exact k _ (.dat (.lst (ns'.map .int))) _ _ μ (S.newF hp) (.newF S hp) (Dr.lst (SqL.of upd_same) ((dr_ints ns').up (ex_new hg))) (q ns' h1 h2)
/-- l.index(x), l frozen -/
theorem re_index {tA : TA} (h : RE E te ε μ fun w μ1 => ∃ ds : List D, w = .dat (.lst ds) ∧ RA E tA ε μ1 fun ws μ2 => ∃ (d z : D) (j n : Nat), ws = [.dat d] ∧ (D.lst ds).pl n = true ∧ n ≤ 64 ∧ d.pl n = true ∧ D.plL ds n = true ∧ ds[j]? = some z ∧ z = d ∧ (∀ (m : Nat) (z' : D), m < j → ds[m]? = some z' → z' ≠ d) ∧ Ψ (.i (j : Int)) μ2) :
    RE E (tBM E.K "list" (rIndexD E.K) te tA) ε μ Ψ := fun σ G H C X Q k =>
  h σ G H C X _ fun v w G1 H1 μ1 S1 s1 r1 ⟨ds, e, h1⟩ => by
    subst e
    have r1 : Dr E.K G1 v (.lst ds) := r1
    have hl := r1
    cases r1 with
    | @lst a xs _ hs ha =>
      refine ⟨Or.inl ⟨rfl, xs, Evl.ex_l S1.gh hs⟩, ?_⟩
      refine h1 σ G1 H1 (C.to S1 s1) (X.to s1) _ fun vs ws G2 H2 μ2 S2 s2 r2 ⟨d, z, j, n, ew, p1, hn, p2, p3, hj, hz, hno, q⟩ => ?_
      subst ew
      subst hz
      cases r2 with
      | @cons u _ _ _ ru rt =>
      cases rt
      have at_ : ∀ {m : Nat} {d : PyData}, (D.pyL ds)[m]? = some d → ∃ z', ds[m]? = some z' ∧ d = z'.py := by
        intro m d hm
        have go : ∀ (ds : List D) (m : Nat), (D.pyL ds)[m]? = ds[m]?.map D.py := by
          intro ds
          induction ds with
          | nil => intro m; rfl
          | cons x xs ih => intro m; cases m with
            | zero => rfl
            | succ m => exact ih m
        rw [go] at hm
        obtain ⟨z', h1, h2⟩ := Option.map_eq_some_iff.mp hm
        exact ⟨z', h1, h2.symm⟩
      have py_at : (D.pyL ds)[j]? = some z.py := by
        have go : ∀ (ds : List D) (m : Nat), (D.pyL ds)[m]? = ds[m]?.map D.py := by
          intro ds
          induction ds with
          | nil => intro m; rfl
          | cons x xs ih => intro m; cases m with
            | zero => rfl
            | succ m => exact ih m
        rw [go, hj]; rfl
      have pls : ∀ x ∈ ds, x.pl n = true := by
        have go : ∀ (ds : List D), D.plL ds n = true → ∀ x ∈ ds, x.pl n = true := by
          intro ds
          induction ds with
          | nil => intro _ x hx; cases hx
          | cons y ys ih =>
            intro h x hx
            rw [D.plL, Bool.and_eq_true] at h
            rcases List.mem_cons.mp hx with rfl | hx
            · exact h.1
            · exact ih h.2 x hx
        exact go ds p3
      refine ⟨a, u, z.py, D.pyL ds, j, z.py, rfl, rfl, ?_, Dr.dp z _ (D.pl_py z n p2).1 (Dr.up (show Dr E.K G2 u z from ru) S2.gh), D.pl_sh p1 hn, D.pl_sh p2 hn, py_at, (D.pl_eq z z n p2 p2).mpr rfl, fun m z' hm hz => ?_, ?_⟩
      · exact Dr.dp (.lst ds) _ (D.pl_py (.lst ds) n p1).1 (Dr.up (hl.up s2.gg) S2.gh)
      · obtain ⟨z2, e1, rfl⟩ := at_ hz
        have ne := hno m z2 hm e1
        cases eb : PyData.eqv z2.py z.py with
        | false => rfl
        | true => exact absurd ((D.pl_eq z2 z n (pls z2 (List.mem_of_getElem? e1)) p2).mp eb) ne
      · exact k (.int (j : Nat)) (.i (j : Int)) _ _ μ2 S2 (s1.trans s2) (Dr.int _) q
end
end Sn

/-! Sn: the fractions in first order, in plain Lean. -/
namespace Sn
def seqI (b : Nat) : List Int := (List.range b).map fun k : Nat => (1 : Int) + (k : Int)
theorem seqI_mem {b : Nat} {c : Int} : c ∈ seqI b ↔ 1 ≤ c ∧ c ≤ b := by
  unfold seqI
  rw [List.mem_map]
  constructor
  · rintro ⟨k, hk, rfl⟩
    have := List.mem_range.mp hk
    omega
  · rintro ⟨h1, h2⟩
    exact ⟨(c - 1).toNat, List.mem_range.mpr (by omega), by omega⟩
theorem seqI_sorted (b : Nat) : (seqI b).Pairwise (· < ·) := by
  unfold seqI
  rw [List.pairwise_map]
  exact List.pairwise_lt_range.imp fun h => by omega
def cop (b : Nat) (s : Int) : List Int := (seqI b).filter fun c => decide (Int.gcd c s = 1)
theorem cop_mem {b : Nat} {s c : Int} : c ∈ cop b s ↔ (1 ≤ c ∧ c ≤ b) ∧ Int.gcd c s = 1 := by
  unfold cop
  rw [List.mem_filter, seqI_mem, decide_eq_true_eq]
theorem cop_sorted (b : Nat) (s : Int) : (cop b s).Pairwise (· < ·) := (seqI_sorted b).sublist List.filter_sublist
theorem cop_len {s : Nat} (hs : 2 ≤ s) : ∀ b : Nat, (cop b (s : Int)).length = num (fun k => decide (Nat.gcd k s = 1)) (b + 1)
  | 0 => by
    show 0 = num _ 0 + _
    rw [num, if_neg (by rw [decide_eq_true_eq, Nat.gcd_zero_left]; omega)]
  | b + 1 => by
    rw [num, ← cop_len hs b]
    unfold cop seqI
    rw [List.range_succ, List.map_append, List.filter_append, List.length_append]
    congr 1
    rw [List.map_cons, List.map_nil, List.filter_cons, List.filter_nil]
    have e : Int.gcd (1 + (b : Int)) (s : Int) = Nat.gcd (b + 1) s := by
      rw [show (1 : Int) + (b : Int) = ((b + 1 : Nat) : Int) by omega]; rfl
    rw [e]
    by_cases h : Nat.gcd (b + 1) s = 1
    · rw [if_pos (decide_eq_true h), if_pos (decide_eq_true h)]; rfl
    · rw [if_neg (by simpa using h), if_neg (by simpa using h)]; rfl
theorem cop_phi {s : Nat} (hs : 2 ≤ s) : (cop (s - 1) (s : Int)).length = phi s := by
  rw [cop_len hs, show s - 1 + 1 = s by omega]; rfl
theorem cop_below {b : Nat} {s v : Int} (h1 : 1 ≤ v) (h2 : v ≤ b + 1) : (cop b s).filter (fun c => decide (c < v)) = cop (v - 1).toNat s :=
  sorted_ext ((cop_sorted b s).sublist List.filter_sublist) (cop_sorted _ s) fun x => by
    rw [List.mem_filter, cop_mem, cop_mem, decide_eq_true_eq]
    constructor
    · rintro ⟨⟨⟨a, b⟩, c⟩, d⟩; exact ⟨⟨a, by omega⟩, c⟩
    · rintro ⟨⟨a, b⟩, c⟩; exact ⟨⟨⟨a, by omega⟩, c⟩, by omega⟩
theorem below_at : ∀ {l : List Int} {i : Nat} {c : Int}, l.Pairwise (· < ·) → l[i]? = some c → (l.filter fun x => decide (x < c)).length = i
  | [], _, _, _, h => by simp at h
  | a :: l, 0, c, hp, h => by
    cases h
    rw [List.filter_cons, if_neg (by simp), List.filter_eq_nil_iff.mpr fun x hx => by
      have := (List.pairwise_cons.mp hp).1 x hx
      simp; omega]
    rfl
  | a :: l, i + 1, c, hp, h => by
    obtain ⟨h1, h2⟩ := List.pairwise_cons.mp hp
    have h : l[i]? = some c := h
    rw [List.filter_cons, if_pos (by simpa using h1 c (List.mem_of_getElem? h)), List.length_cons, below_at h2 h]
theorem above_at : ∀ {l : List Int} {i : Nat} {c : Int}, l.Pairwise (· < ·) → l[i]? = some c → (l.filter fun x => decide (x > c)).length = l.length - i - 1
  | [], _, _, _, h => by simp at h
  | a :: l, 0, c, hp, h => by
    cases h
    rw [List.filter_cons, if_neg (by simp), List.filter_eq_self.mpr fun x hx => by
      have := (List.pairwise_cons.mp hp).1 x hx
      simpa using this]
    rfl
  | a :: l, i + 1, c, hp, h => by
    obtain ⟨h1, h2⟩ := List.pairwise_cons.mp hp
    have h : l[i]? = some c := h
    have := h1 c (List.mem_of_getElem? h)
    rw [List.filter_cons, if_neg (by simp; omega), above_at h2 h, List.length_cons]
    omega
/-- two for each -/
def twoL (s : Int) (l : List Int) : List (Int × Int) := l.flatMap fun y => [(-s, y), (s, y)]
theorem twoL_len (s : Int) : ∀ l : List Int, (twoL s l).length = 2 * l.length
  | [] => rfl
  | a :: l => by
    have := twoL_len s l
    unfold twoL at this ⊢
    rw [List.flatMap_cons, List.length_append, this]
    simp only [List.length_cons, List.length_nil]
    omega
theorem twoL_mem {s : Int} {l : List Int} {f : Int × Int} : f ∈ twoL s l ↔ f.2 ∈ l ∧ (f.1 = -s ∨ f.1 = s) := by
  unfold twoL
  rw [List.mem_flatMap]
  constructor
  · rintro ⟨y, hy, h⟩
    rcases List.mem_cons.mp h with rfl | h
    · exact ⟨hy, .inl rfl⟩
    · rw [List.mem_singleton.mp h]; exact ⟨hy, .inr rfl⟩
  · obtain ⟨x, y⟩ := f
    rintro ⟨h, rfl | rfl⟩
    · exact ⟨y, h, List.mem_cons_self⟩
    · exact ⟨y, h, List.mem_cons_of_mem _ List.mem_cons_self⟩
theorem twoL_at {s : Int} : ∀ {l : List Int} {j : Nat} {f : Int × Int}, (twoL s l)[j]? = some f → ∃ i, l[i]? = some f.2 ∧ ((f.1 = -s ∧ j = 2 * i) ∨ (f.1 = s ∧ j = 2 * i + 1))
  | [], j, f, h => by simp [twoL] at h
  | a :: l, 0, f, h => by
    cases h
    exact ⟨0, rfl, .inl ⟨rfl, rfl⟩⟩
  | a :: l, 1, f, h => by
    cases h
    exact ⟨0, rfl, .inr ⟨rfl, rfl⟩⟩
  | a :: l, j + 2, f, h => by
    obtain ⟨i, h1, h2⟩ := twoL_at (l := l) (j := j) (f := f) h
    refine ⟨i + 1, h1, ?_⟩
    rcases h2 with ⟨a, b⟩ | ⟨a, b⟩
    · exact .inl ⟨a, by omega⟩
    · exact .inr ⟨a, by omega⟩
def ones : List (Int × Int) := [(1, 0), (-1, 1), (0, 1), (1, 1)]
def ofs (s : Nat) : List (Int × Int) := if s = 1 then ones else twoL s (cop (s - 1) s) ++ ((cop (s - 1) s).reverse.map fun c => (-c, (s : Int))) ++ (cop (s - 1) s).map fun c => (c, (s : Int))
def ups (h : Nat) : List (Int × Int) := (List.range h).flatMap fun k => ofs (k + 1)
theorem ups_succ (h : Nat) : ups (h + 1) = ups h ++ ofs (h + 1) := by
  unfold ups
  rw [List.range_succ, List.flatMap_append, List.flatMap_cons, List.flatMap_nil, List.append_nil]
theorem ofs_len (s : Nat) (hs : 1 ≤ s) : (ofs s).length = 4 * phi s := by
  unfold ofs
  split
  · rename_i e; subst e; rfl
  · rw [List.length_append, List.length_append, twoL_len, List.length_map, List.length_map, List.length_reverse, cop_phi (by omega)]
    omega
theorem phiS_succ (h : Nat) : phiS (h + 1) = phiS h + (phi (h + 1) : Nat) := by
  unfold phiS
  rw [List.range_succ, List.map_append, List.sum_append, List.map_cons, List.map_nil, List.sum_cons, List.sum_nil, Int.add_zero]
theorem ups_len : ∀ h : Nat, ((ups h).length : Int) = 4 * phiS h
  | 0 => rfl
  | h + 1 => by
    rw [ups_succ, List.length_append, ofs_len _ (by omega), phiS_succ]
    have := ups_len h
    omega
theorem phi_sum (h : Nat) : phiS h ≤ h * h := by
  induction h with
  | zero => decide
  | succ h ih =>
    rw [phiS_succ]
    have := phi_le (h + 1)
    have e : ((h + 1 : Nat) : Int) * ((h + 1 : Nat) : Int) = (h : Int) * h + 2 * h + 1 := by rw [show ((h + 1 : Nat) : Int) = (h : Int) + 1 by omega, Int.add_mul, Int.mul_add]; omega
    omega
theorem ups_le {h : Nat} (hh : h ≤ 40) : (ups h).length ≤ 6400 := by
  have h1 := ups_len h
  have h2 := phi_sum h
  have h3 : h * h ≤ 40 * 40 := Nat.mul_le_mul hh hh
  have h4 : ((h * h : Nat) : Int) = (h : Int) * h := Int.natCast_mul ..
  omega
def tall (f : Int × Int) : Int := max (f.1.natAbs : Int) (f.2.natAbs : Int)
theorem ofs_mem {s : Nat} (hs : 2 ≤ s) {f : Int × Int} : f ∈ ofs s ↔ (f.2 ∈ cop (s - 1) s ∧ (f.1 = -(s : Int) ∨ f.1 = s)) ∨ (f.2 = s ∧ (-f.1 ∈ cop (s - 1) s ∨ f.1 ∈ cop (s - 1) s)) := by
  unfold ofs
  rw [if_neg (by omega), List.mem_append, List.mem_append, twoL_mem, List.mem_map, List.mem_map]
  constructor
  · rintro ((h | ⟨c, hc, rfl⟩) | ⟨c, hc, rfl⟩)
    · exact .inl h
    · exact .inr ⟨rfl, .inl (by rw [Int.neg_neg]; exact List.mem_reverse.mp hc)⟩
    · exact .inr ⟨rfl, .inr hc⟩
  · obtain ⟨x, y⟩ := f
    rintro (h | ⟨rfl, h | h⟩)
    · exact .inl (.inl h)
    · exact .inl (.inr ⟨-x, List.mem_reverse.mpr h, by rw [Int.neg_neg]⟩)
    · exact .inr ⟨x, h, rfl⟩
theorem ofs_tall {s : Nat} (hs : 1 ≤ s) {f : Int × Int} (h : f ∈ ofs s) : tall f = s := by
  unfold tall
  by_cases e : s = 1
  · subst e
    have h : f ∈ ones := h
    unfold ones at h
    simp only [List.mem_cons, List.mem_nil_iff, or_false] at h
    rcases h with rfl | rfl | rfl | rfl <;> decide
  · rcases (ofs_mem (by omega)).mp h with ⟨h1, h2⟩ | ⟨h1, h2⟩
    · obtain ⟨⟨h3, h4⟩, _⟩ := cop_mem.mp h1
      rcases h2 with h2 | h2 <;> omega
    · rcases h2 with h2 | h2 <;> (obtain ⟨⟨h3, h4⟩, _⟩ := cop_mem.mp h2; omega)
/-- how many of the same size stand before -/
def offs (s : Nat) (f : Int × Int) : Int :=
  let l := cop (s - 1) (s : Int)
  let c := fun v : Int => (((l.filter fun x => decide (x < v)).length : Nat) : Int)
  if s = 1 then (if f.2 = 0 then 0 else f.1 + 2)
  else if f.2 < s then 2 * c f.2 + (if f.1 > 0 then 1 else 0)
  else if f.1 < 0 then 2 * (l.length : Int) + (l.length : Int) - c (-f.1) - 1 else 2 * (l.length : Int) + (l.length : Int) + c f.1
theorem offs_at {s j : Nat} {f : Int × Int} (hs : 1 ≤ s) (h : (ofs s)[j]? = some f) : offs s f = (j : Int) := by
  unfold offs
  dsimp only
  by_cases e : s = 1
  · subst e
    rw [if_pos rfl]
    have hj := (List.getElem?_eq_some_iff.mp h).1
    have hj : j < 4 := hj
    rcases (by omega : j = 0 ∨ j = 1 ∨ j = 2 ∨ j = 3) with rfl | rfl | rfl | rfl <;> (cases h; decide)
  · rw [if_neg e]
    have so := cop_sorted (s - 1) (s : Int)
    have mem : ∀ {c}, c ∈ cop (s - 1) (s : Int) → 1 ≤ c ∧ c < s := fun hc => by
      obtain ⟨⟨h3, h4⟩, _⟩ := cop_mem.mp hc
      omega
    unfold ofs at h
    rw [if_neg e] at h
    have l1 := twoL_len (s : Int) (cop (s - 1) s)
    rcases Nat.lt_or_ge j (2 * (cop (s - 1) (s : Int)).length) with h1 | h1
    · rw [List.append_assoc, List.getElem?_append_left (by omega)] at h
      obtain ⟨i, h2, h3⟩ := twoL_at h
      have h4 := mem (List.mem_of_getElem? h2)
      rw [if_pos h4.2, below_at so h2]
      rcases h3 with ⟨h3, rfl⟩ | ⟨h3, rfl⟩
      · rw [if_neg (by omega)]; omega
      · rw [if_pos (by omega)]; omega
    · rw [List.append_assoc, List.getElem?_append_right (by omega), l1] at h
      rcases Nat.lt_or_ge (j - 2 * (cop (s - 1) (s : Int)).length) (cop (s - 1) (s : Int)).length with h2 | h2
      · rw [List.getElem?_append_left (by rw [List.length_map, List.length_reverse]; exact h2), List.getElem?_map] at h
        obtain ⟨c, hc, rfl⟩ := Option.map_eq_some_iff.mp h
        rw [List.getElem?_reverse h2] at hc
        have h4 := mem (List.mem_of_getElem? hc)
        dsimp only
        rw [if_neg (by omega), if_pos (by omega), Int.neg_neg, below_at so hc]
        omega
      · rw [List.getElem?_append_right (by rw [List.length_map, List.length_reverse]; exact h2), List.length_map, List.length_reverse, List.getElem?_map] at h
        obtain ⟨c, hc, rfl⟩ := Option.map_eq_some_iff.mp h
        have h4 := mem (List.mem_of_getElem? hc)
        dsimp only
        rw [if_neg (by omega), if_neg (by omega), below_at so hc]
        omega
theorem ups_at : ∀ {h j : Nat} {f : Int × Int}, (ups h)[j]? = some f → ∃ s : Nat, 1 ≤ s ∧ s ≤ h ∧ f ∈ ofs s ∧ 4 * phiS (s - 1) + offs s f = (j : Int)
  | 0, j, f, h => by simp [ups] at h
  | h + 1, j, f, e => by
    rw [ups_succ] at e
    rcases Nat.lt_or_ge j (ups h).length with h1 | h1
    · rw [List.getElem?_append_left h1] at e
      obtain ⟨s, a, b, c, d⟩ := ups_at e
      exact ⟨s, a, by omega, c, d⟩
    · rw [List.getElem?_append_right h1] at e
      refine ⟨h + 1, by omega, Nat.le_refl _, List.mem_of_getElem? e, ?_⟩
      rw [offs_at (by omega) e, Nat.add_sub_cancel, ← ups_len]
      omega
def keyL (f : Int × Int) : List Int := [tall f, f.2, f.1]
def keyLt (f g : Int × Int) : Prop := tall f < tall g ∨ (tall f = tall g ∧ (f.2 < g.2 ∨ (f.2 = g.2 ∧ f.1 < g.1)))
theorem keyLt_lex {f g : Int × Int} (h : keyLt f g) : HT.lexLt (keyL f) (keyL g) = true := by
  unfold keyL
  rw [HT.lexLt_cons, HT.lexLt_cons, HT.lexLt_cons]
  rcases h with h | ⟨h, k | ⟨k, l⟩⟩
  · rw [if_neg (by omega), decide_eq_true h]
  · rw [if_pos h, if_neg (by omega), decide_eq_true k]
  · rw [if_pos h, if_pos k, if_neg (by omega), decide_eq_true l]
theorem two_sorted {s : Int} (hs : 0 < s) : ∀ {l : List Int}, l.Pairwise (· < ·) → (twoL s l).Pairwise fun f g => f.2 < g.2 ∨ (f.2 = g.2 ∧ f.1 < g.1)
  | [], _ => List.Pairwise.nil
  | a :: l, h => by
    obtain ⟨h1, h2⟩ := List.pairwise_cons.mp h
    have ih := two_sorted hs h2
    show ((-s, a) :: (s, a) :: twoL s l).Pairwise _
    refine List.pairwise_cons.mpr ⟨fun g hg => ?_, List.pairwise_cons.mpr ⟨fun g hg => .inl (h1 _ (twoL_mem.mp hg).1), ih⟩⟩
    rcases List.mem_cons.mp hg with rfl | hg
    · exact .inr ⟨rfl, by dsimp only; omega⟩
    · exact .inl (h1 _ (twoL_mem.mp hg).1)
theorem ofs_sorted {s : Nat} (hs : 1 ≤ s) : (ofs s).Pairwise fun f g => f.2 < g.2 ∨ (f.2 = g.2 ∧ f.1 < g.1) := by
  unfold ofs
  split
  · decide
  · have so := cop_sorted (s - 1) (s : Int)
    have mem : ∀ {c}, c ∈ cop (s - 1) (s : Int) → 1 ≤ c ∧ c < s := fun hc => by
      obtain ⟨⟨h3, h4⟩, _⟩ := cop_mem.mp hc
      omega
    refine List.pairwise_append.mpr ⟨List.pairwise_append.mpr ⟨two_sorted (by omega) so, ?_, ?_⟩, ?_, ?_⟩
    · rw [List.pairwise_map, List.pairwise_reverse]
      exact so.imp fun h => .inr ⟨rfl, by dsimp only; omega⟩
    · intro f hf g hg
      obtain ⟨c, hc, rfl⟩ := List.mem_map.mp hg
      exact .inl (mem (twoL_mem.mp hf).1).2
    · rw [List.pairwise_map]
      exact so.imp fun h => .inr ⟨rfl, h⟩
    · intro f hf g hg
      obtain ⟨c, hc, rfl⟩ := List.mem_map.mp hg
      have h4 := mem hc
      rcases List.mem_append.mp hf with hf | hf
      · exact .inl (mem (twoL_mem.mp hf).1).2
      · obtain ⟨c', hc', rfl⟩ := List.mem_map.mp hf
        have h5 := mem (List.mem_reverse.mp hc')
        exact .inr ⟨rfl, by dsimp only; omega⟩
theorem ups_mem {h : Nat} {f : Int × Int} (hf : f ∈ ups h) : ∃ s : Nat, 1 ≤ s ∧ s ≤ h ∧ f ∈ ofs s := by
  obtain ⟨k, hk, h1⟩ := List.mem_flatMap.mp hf
  have := List.mem_range.mp hk
  exact ⟨k + 1, by omega, by omega, h1⟩
theorem ups_sorted : ∀ h : Nat, (ups h).Pairwise keyLt
  | 0 => List.Pairwise.nil
  | h + 1 => by
    rw [ups_succ]
    refine List.pairwise_append.mpr ⟨ups_sorted h, ?_, ?_⟩
    · refine List.Pairwise.imp_of_mem (fun {f g} hf hg k => .inr ⟨?_, k⟩) (ofs_sorted (s := h + 1) (by omega))
      rw [ofs_tall (by omega) hf, ofs_tall (by omega) hg]
    · intro f hf g hg
      obtain ⟨s, a, b, c⟩ := ups_mem hf
      left
      rw [ofs_tall a c, ofs_tall (by omega) hg]
      omega
end Sn

/-! Sn: lists of ints compared by <. -/
namespace Sn
open PySem PySem.Spec PyProof.Rows RZ
open L2 hiding prD
theorem firstMap (e r : Nat → Bool) (fin : Bool) (f : Nat → Nat) : ∀ l : List Nat, SeqAt.firstLt e r fin (l.map f) = SeqAt.firstLt (fun j => e (f j)) (fun j => r (f j)) fin l
  | [] => rfl
  | j :: t => by rw [List.map_cons, SeqAt.firstLt, SeqAt.firstLt, firstMap e r fin f t]
theorem first_lex : ∀ ns ms : List Int, SeqAt.firstLt (fun j => ns.getD j 0 == ms.getD j 0) (fun j => decide (ns.getD j 0 < ms.getD j 0)) (decide (ns.length < ms.length)) (List.range (min ns.length ms.length)) = HT.lexLt ns ms
  | [], [] => rfl
  | [], _ :: _ => by rw [List.length_nil, Nat.zero_min]; rfl
  | _ :: _, [] => by rw [List.length_nil, Nat.min_zero]; rfl
  | n :: ns, m :: ms => by
    have ih := first_lex ns ms
    rw [List.length_cons, List.length_cons, Nat.succ_min_succ, List.range_succ_eq_map]
    rw [SeqAt.firstLt, firstMap, HT.lexLt_cons]
    have e : decide (ns.length + 1 < ms.length + 1) = decide (ns.length < ms.length) := by rw [decide_eq_decide]; omega
    rw [e]
    show (if (n == m) = true then SeqAt.firstLt (fun j => ns.getD j 0 == ms.getD j 0) (fun j => decide (ns.getD j 0 < ms.getD j 0)) _ _ else decide (n < m)) = _
    rw [ih]
    by_cases h : n = m
    · rw [if_pos (by simpa using h), if_pos h]
    · rw [if_neg (by simpa using h), if_neg h]
theorem ints_at : ∀ {vs : List Value} {ns : List Int}, IntsAre vs ns → ∀ (j : Nat) (h : j < vs.length), ∃ t, vs[j] = .int (ns.getD j 0) t
  | _, _, .cons n t r, 0, _ => ⟨t, rfl⟩
  | _, _, .cons n t r, j + 1, h => ints_at r j (by simpa using h)
theorem ints_len : ∀ {vs : List Value} {ns : List Int}, IntsAre vs ns → vs.length = ns.length
  | _, _, .nil => rfl
  | _, _, .cons n t r => by rw [List.length_cons, List.length_cons, ints_len r]
def rLtL (K : PySem.W.Frag) : R2 := fun x y H Q => ∃ a b ns ms, x = .ref a ∧ y = .ref b ∧ SqL K H a (ns.map V.int) ∧ SqL K H b (ms.map V.int) ∧ Q (.bl (HT.lexLt ns ms)) H
theorem op_ltL {X : Cx} (hu : X.A.units < cLine) : OpR X (compareOp .Lt) (rLtL X.K) := by
  intro pins s σ H x y v u Q I rx ry h
  obtain ⟨a, b, ns, ms, rfl, rfl, ha, hb, q⟩ := h
  cases rx
  cases ry
  obtain ⟨its, r1, p1, _⟩ := I.list ha
  obtain ⟨its2, r2, p2, _⟩ := I.list hb
  have i1 : IntsAre its ns := intsAre_of r1
  have i2 : IntsAre its2 ms := intsAre_of r2
  have h := SeqAt.RcLt.lists (A := X.A) (s := s) (e := fun j => ns.getD j 0 == ms.getD j 0) (r := fun j => decide (ns.getD j 0 < ms.getD j 0)) p1.isList p2.isList hu
    (fun j h1 h2 => by
      obtain ⟨t, e1⟩ := ints_at i1 j (by simpa using h1)
      obtain ⟨t2, e2⟩ := ints_at i2 j (by simpa using h2)
      rw [show its.toArray[j] = its[j] by simp, show its2.toArray[j] = its2[j] by simp, e1, e2]
      exact SeqAt.EqAt.int_int _ _ _ _)
    (fun j h1 h2 _ => by
      obtain ⟨t, e1⟩ := ints_at i1 j (by simpa using h1)
      obtain ⟨t2, e2⟩ := ints_at i2 j (by simpa using h2)
      rw [show its.toArray[j] = its[j] by simp, show its2.toArray[j] = its2[j] by simp, e1, e2]
      exact fun prog w E Q hq => PyProof.Rows.lt_int hq)
  rw [List.size_toArray, List.size_toArray, ints_len i1, ints_len i2, first_lex] at h
  exact h _ _ _ _ ⟨.bl (HT.lexLt ns ms), H, I, rfl, q⟩
section
variable {E : En} {μ : Mu}
theorem vo_ltL {ns ms : List Int} : VO E (rLtL E.K) (.dat (.lst (ns.map .int))) (.dat (.lst (ms.map .int))) μ (.b (HT.lexLt ns ms)) := fun G H S v1 v2 r1 r2 Q q => by
  have isI : ∀ {ns : List Int} {vs : List V}, DrA E.K G vs (ns.map .int) → vs = ns.map V.int := by
    intro ns
    induction ns with
    | nil => intro vs h; cases h; rfl
    | cons n ns ih =>
      intro vs h
      cases h with
      | cons r t => cases r; rw [ih t]; rfl
  cases (show Dr E.K G v1 (.lst (ns.map .int)) from r1) with
  | @lst a xs _ hs ha =>
    cases (show Dr E.K G v2 (.lst (ms.map .int)) from r2) with
    | @lst b ys _ hs2 ha2 =>
      rw [isI ha] at hs
      rw [isI ha2] at hs2
      exact ⟨a, b, ns, ms, rfl, rfl, Evl.ex_l S.gh hs, Evl.ex_l S.gh hs2, q _ (Dr.bl _)⟩
theorem bls_of {K : PySem.W.Frag} {G : Hp} : ∀ {bs : List Bool} {vs : List V}, DrA K G vs (bs.map .bl) → vs = bs.map V.bl := by
  intro bs
  induction bs with
  | nil => intro vs h; cases h; rfl
  | cons n ns ih =>
    intro vs h
    cases h with
    | cons r t => cases r; rw [ih t]; rfl
theorem vc_all {bs : List Bool} : VC E (rAll E.K) [.dat (.lst (bs.map .bl))] μ (.b (bs.all id)) := fun G H S vs rs Q q => by
  cases rs with
  | @cons v _ _ _ r t =>
    cases t
    cases (show Dr E.K G v (.lst (bs.map .bl)) from r) with
    | @lst a xs _ hs ha =>
      rw [bls_of ha] at hs
      exact ⟨a, bs, rfl, Evl.ex_l S.gh hs, q _ (Dr.bl _)⟩
theorem vc_any {bs : List Bool} : VC E (rAny E.K) [.dat (.lst (bs.map .bl))] μ (.b (bs.any id)) := fun G H S vs rs Q q => by
  cases rs with
  | @cons v _ _ _ r t =>
    cases t
    cases (show Dr E.K G v (.lst (bs.map .bl)) from r) with
    | @lst a xs _ hs ha =>
      rw [bls_of ha] at hs
      exact ⟨a, bs, rfl, Evl.ex_l S.gh hs, q _ (Dr.bl _)⟩
end
end Sn

/-! Sn: numbers up to 900 by their prime powers. -/
namespace Sn
def pf (n : Int) : List (Int × Int) := (ppF n).1
structure PfOk (n : Int) : Prop where
  m : ∀ q ∈ pf n, OkP q.1 ∧ 1 ≤ q.2 ∧ q.2 ≤ 12 ∧ q.1 ^ q.2.toNat ∣ n
  s : (pf n).Pairwise fun a b => a.1 < b.1
  p : n = prodF 1 (pf n)
  l : (pf n).length ≤ 996
theorem pf_ok {n : Int} (h1 : 1 ≤ n) (h2 : n ≤ 900) : PfOk n := by
  have ok := ppF_ok h1
  have hd : (ppF n).2 ∣ n := by
    have := prodF_rest (ppF n).1 (ppF n).2
    rwa [← ok.pr] at this
  have hr : (ppF n).2 = 1 := by
    have h3 := Int.le_of_dvd (by omega) hd
    have h4 := ok.r1
    rcases (by omega : (ppF n).2 = 1 ∨ 2 ≤ (ppF n).2) with z | z
    · exact z
    · exact (ok.no _ z (by omega) (Int.dvd_refl _)).elim
  have hp := ok.pr
  rw [hr] at hp
  refine ⟨fun q hq => ?_, ok.so, hp, ok.ln⟩
  obtain ⟨a, b, c⟩ := ok.pm q hq
  have hdv : q.1 ^ q.2.toNat ∣ n := by
    have := prodF_dvd (r := 1) hq
    rwa [show prodF 1 (pf n) = n from hp.symm] at this
  refine ⟨⟨b, a⟩, c, ?_, hdv⟩
  have h5 := pow_bits (e := q.2.toNat) h1 a.1 hdv
  have h6 := bits_le (show Bd 10 n from ⟨by omega⟩)
  omega
def ClsM (x y n : Int) (cs : List (Int × Int)) : Prop := cs.length = (pf n).length ∧ ∀ (i : Nat) (q c : Int × Int), (pf n)[i]? = some q → cs[i]? = some c → Cls x y q.1 q.2.toNat c.1 c.2
def totP (ps : List (Int × Int)) : Int := ps.foldl (fun a q => a * (q.1 ^ q.2.toNat + q.1 ^ (q.2.toNat - 1))) 1
theorem totP_snoc (ps : List (Int × Int)) (q : Int × Int) : totP (ps ++ [q]) = totP ps * (q.1 ^ q.2.toNat + q.1 ^ (q.2.toNat - 1)) := by
  unfold totP
  rw [List.foldl_append]; rfl
theorem pow_le900 {n p : Int} {e : Nat} (h1 : 1 ≤ n) (h2 : n ≤ 900) (hp : 2 ≤ p) (h : p ^ e ∣ n) : 1 ≤ p ^ e ∧ p ^ e ≤ 900 ∧ 1 ≤ p ^ (e - 1) ∧ p ^ (e - 1) ≤ 900 := by
  have a := Int.le_of_dvd (by omega) h
  have b : p ^ (e - 1) ∣ n := Int.dvd_trans ⟨p ^ (e - (e - 1)), by rw [← Int.pow_add]; congr 1; omega⟩ h
  have c := Int.le_of_dvd (by omega) b
  have d : 0 < p ^ e := Int.pow_pos (by omega)
  have f : 0 < p ^ (e - 1) := Int.pow_pos (by omega)
  omega
theorem totP_bd {n : Int} (h1 : 1 ≤ n) (h2 : n ≤ 900) : ∀ i, i ≤ (pf n).length → Bd (11 * i + 1) (totP ((pf n).take i))
  | 0, _ => ⟨by show 1 < 2 ^ (11 * 0 + 1); decide⟩
  | i + 1, hi => by
    have hg : (pf n)[i]? = some (pf n)[i] := List.getElem?_eq_getElem (by omega)
    rw [take_snoc hg, totP_snoc]
    obtain ⟨hp, he1, he2, hdv⟩ := (pf_ok h1 h2).m _ (List.getElem_mem (show i < (pf n).length by omega))
    obtain ⟨a, b, c, d⟩ := pow_le900 h1 h2 hp.2.1 hdv
    exact ((totP_bd h1 h2 i (by omega)).mul (show Bd 11 _ from ⟨by omega⟩)).up (by omega)
/-- all classes modulo a number -/
def clM (ps : List (Int × Int)) : List (List (Int × Int)) := ps.foldl (fun rows q => rows.flatMap fun row => (clsL q.1 q.2.toNat).map fun c => row ++ [c]) [[]]
theorem clM_snoc (ps : List (Int × Int)) (q : Int × Int) : clM (ps ++ [q]) = (clM ps).flatMap fun row => (clsL q.1 q.2.toNat).map fun c => row ++ [c] := by
  unfold clM
  rw [List.foldl_append]; rfl
def rowD (r : List (Int × Int)) : D := .tup (r.map prD)
theorem clM_small : ((List.range 61).all fun n => (List.range ((pf (n : Int)).length + 1)).all fun i => decide ((clM ((pf (n : Int)).take i)).length ≤ 2000)) = true := by decide +kernel
theorem clM_len {n : Int} (h1 : 1 ≤ n) (h2 : n ≤ 60) {i : Nat} (hi : i ≤ (pf n).length) : (clM ((pf n).take i)).length ≤ 2000 := by
  have a := List.all_eq_true.mp clM_small n.toNat (List.mem_range.mpr (by omega))
  rw [Int.toNat_of_nonneg (by omega)] at a
  exact of_decide_eq_true (List.all_eq_true.mp a i (List.mem_range.mpr (by omega)))
end Sn

/-! Sn: zip over two of lists and tuples, of any kind each. -/
namespace Sn
open PySem PySem.Spec PyProof.Rows L2 RZ
def SqK (K : PySem.W.Frag) (k : Bool) (H : Hp) (a : Addr) (xs : List V) : Prop := match k with | true => SqT K H a xs | false => SqL K H a xs
def atK (k : Bool) (h : Heap) (it a : Addr) (i : Nat) : Prop := match k with | true => h.IsTupleIter it a i | false => h.IsListIter it a i
def isK (k : Bool) (h : Heap) (a : Addr) (its : Array Value) : Prop := match k with | true => h.IsTuple a its | false => h.IsList a its
def itO (k : Bool) (a : Addr) : Obj := match k with
  | true => { cls := .type "tuple_iterator", data := .fields #[.ref a, .int 0 0] }
  | false => { cls := .type "list_iterator", data := .fields #[.ref a, .int 0 0] }
theorem drawK {prog : Program} {w : World} {A : Around} (k : Bool) (hh : A.handled = none) (it a : Addr) (hne : a ≠ it) (its : Array Value) :
    Draws prog w A it [it, a] its.size (fun i v => its[i]? = some v) (fun i h => atK k h it a i ∧ isK k h a its) := by
  cases k with
  | true => exact Draws.tuple hh it a hne its
  | false => exact Draws.list hh it a hne its
theorem begK (k : Bool) (a : Addr) (its : Array Value) : Begins (.ref a) (itO k a) (fun h => isK k h a its) := by
  cases k with
  | true => exact begins_tuple a its
  | false => exact begins_list a its
theorem atK_new {k : Bool} {h : Heap} {it a : Addr} (e : h.get? it = some (itO k a)) : atK k h it a 0 := by
  cases k with
  | true => exact ⟨_, e, rfl, rfl⟩
  | false => exact ⟨_, e, rfl, rfl⟩
theorem atK.ob {k : Bool} {h : Heap} {it a : Addr} {i : Nat} (s : atK k h it a i) : ∃ o, h.get? it = some o ∧ ∃ fs, o.data = .fields fs := by
  cases k with
  | true => obtain ⟨o, e, _, d⟩ := s; exact ⟨o, e, _, d⟩
  | false => obtain ⟨o, e, _, d⟩ := s; exact ⟨o, e, _, d⟩
theorem atK.keep {k : Bool} {h h' : Heap} {it a : Addr} {i : Nat} (s : atK k h it a i) (e : ∀ o, h.get? it = some o → h'.get? it = some o) : atK k h' it a i := by
  cases k with
  | true => exact Heap.IsTupleIter.at s e
  | false => exact Heap.IsListIter.at s e
theorem SqK.up {K : PySem.W.Frag} {k : Bool} {G H : Hp} {a : Addr} {xs : List V} (e : Ex G H) (h : SqK K k G a xs) : SqK K k H a xs := by
  cases k with
  | true => exact Evl.ex_t e h
  | false => exact Evl.ex_l e h
theorem inv_K {X : Cx} {pins : List (Addr × Obj)} {σ : L2.St} {H : Hp} {s : Shared} {k : Bool} {a : Addr} {xs : List V} (I : Inv X pins σ H s) (h : SqK X.K k H a xs) : ∃ its : List Value, Vals xs its ∧ isK k s.heap a its.toArray ∧ a < s.heap.objs.size := by
  cases k with
  | true =>
    obtain ⟨its, rv, p, _⟩ := I.tuple h
    obtain ⟨o, ho, _⟩ := id p
    exact ⟨its, rv, p, Heap.lt_size ho⟩
  | false =>
    obtain ⟨its, rv, p, _⟩ := I.list h
    exact ⟨its, rv, p.isList, p.lt⟩
theorem inv_inj {X : Cx} {pins : List (Addr × Obj)} {σ : L2.St} {H : Hp} {s : Shared} {k : Bool} {a : Addr} {xs ys : List V} (I : Inv X pins σ H s) (h1 : SqK X.K k H a xs) (h2 : SqK X.K k H a ys) : xs = ys := by
  cases k with
  | true => exact I.tuple_inj h1 h2
  | false => exact I.list_inj h1 h2
/-- the rows at a and b, the items in new pairs -/
def ItK (K : PySem.W.Frag) (k1 k2 : Bool) (a b : Addr) : It where
  go := fun i H => ∃ (xs ys : List V) (x y : V), SqK K k1 H a xs ∧ SqK K k2 H b ys ∧ xs[i]? = some x ∧ ys[i]? = some y
  yld := fun i H v H' => ∃ T x y, v = .ref T ∧ H T = none ∧ H' = upd H T (.tup [x, y]) ∧ (∀ us, SqK K k1 H a us → us[i]? = some x) ∧ ∀ us, SqK K k2 H b us → us[i]? = some y
  stop := fun i H => ∃ xs ys : List V, SqK K k1 H a xs ∧ SqK K k2 H b ys ∧ i = min xs.length ys.length
theorem walk_K {K : PySem.W.Frag} {k1 k2 : Bool} {a b : Addr} {xs ys : List V} {n : Nat} (hn : n = min xs.length ys.length) : Walk (ItK K k1 k2 a b) n (fun H => SqK K k1 H a xs ∧ SqK K k2 H b ys) (YPair (fun i => xs[i]?) (fun i => ys[i]?)) where
  goes := fun i _ hi q => ⟨xs, ys, xs[i]'(by omega), ys[i]'(by omega), q.1, q.2, by simp [show i < xs.length by omega], by simp [show i < ys.length by omega]⟩
  stops := fun _ q => ⟨xs, ys, q.1, q.2, hn⟩
  yields := fun i H v H' _ q ⟨T, x, z, h1, h2, h3, h4, h5⟩ => ⟨T, x, z, h1, h2, h3, h4 xs q.1, h5 ys q.2⟩
theorem sepK {z TI TO i1 i2 a b : Addr} (D : ZipApart z TI TO i1 i2 a b) : ZipSep2 z TI TO i1 i2 [i1, a] [i2, b] where
  TIz := D.TIz
  TOz := D.TOz
  TITO := D.TITO
  TIi1 := D.TIi1
  mem1 := by simp
  zf1 := by simp only [List.mem_cons, List.not_mem_nil, or_false, not_or]; exact ⟨D.i1z.symm, D.l1z.symm⟩
  Tf1 := by simp only [List.mem_cons, List.not_mem_nil, or_false, not_or]; exact ⟨D.TOi1, D.l1TO.symm⟩
  TIi2 := D.TIi2
  mem2 := by simp
  zf2 := by simp only [List.mem_cons, List.not_mem_nil, or_false, not_or]; exact ⟨D.i2z.symm, D.l2z.symm⟩
  Tf2 := by simp only [List.mem_cons, List.not_mem_nil, or_false, not_or]; exact ⟨D.TOi2, D.l2TO.symm⟩
  sep1_2 := by simp only [List.mem_cons, List.not_mem_nil, or_false, not_or]; exact ⟨D.i12, D.l2i1.symm⟩
  sep2_1 := by simp only [List.mem_cons, List.not_mem_nil, or_false, not_or]; exact ⟨D.i12.symm, D.l1i2.symm⟩
theorem five {c z TI TO i1 i2 : Addr} (h : c ∈ [z, TI, TO, i1, i2]) : c = z ∨ c = TI ∨ c = TO ∨ c = i1 ∨ c = i2 := by simpa using h
theorem turn_K {P : Program} {w : World} {K : PySem.W.Frag} {elts : List Expr} {kk : Nat} {tpos : Pos} {k1 k2 : Bool} {a b z TI TO i1 i2 : Addr} (D : ZipApart z TI TO i1 i2 a b) :
    Turn P w K (.Tuple elts kk tpos) (ItK K k1 k2 a b) [z, TI, TO, i1, i2] z (fun i h => IsZip h z TI TO .none ∧ IsTupOf2 h TI (.ref i1) (.ref i2) ∧ (∃ x y, IsTupOf2 h TO x y) ∧ atK k1 h i1 a i ∧ atK k2 h i2 b i) where
  mem := by simp
  obj := fun i h st c hc => by
    obtain ⟨hz, hTI, ⟨x, y, hTO⟩, s1, s2⟩ := st
    rcases five hc with rfl | rfl | rfl | rfl | rfl
    · exact ⟨_, hz, fun v q => nomatch q⟩
    · exact ⟨_, hTI, fun v q => nomatch q⟩
    · exact ⟨_, hTO, fun v q => nomatch q⟩
    · obtain ⟨o, e, fs, d⟩ := s1.ob; exact ⟨o, e, fun v q => by rw [d] at q; cases q⟩
    · obtain ⟨o, e, fs, d⟩ := s2.ob; exact ⟨o, e, fun v q => by rw [d] at q; cases q⟩
  keep := fun i h h' ⟨hz, hTI, ⟨x, y, hTO⟩, s1, s2⟩ k => ⟨k z (by simp) _ hz, k TI (by simp) _ hTI, ⟨x, y, k TO (by simp) _ hTO⟩, s1.keep (k i1 (by simp)), s2.keep (k i2 (by simp))⟩
  item := by
    intro X hP hw hK hc i pins s σ H E I hf st hg
    subst hP hw hK
    obtain ⟨hz, hTI, ⟨x0, y0, hTO⟩, s1, s2⟩ := st
    obtain ⟨xs, ys, x, y, hqx, hqy, hx, hy⟩ := hg
    obtain ⟨its, rv, p, _⟩ := inv_K I hqx
    obtain ⟨its2, rv2, p2, _⟩ := inv_K I hqy
    obtain ⟨u, hu, ru⟩ := rv.get hx
    obtain ⟨u2, hu2, ru2⟩ := rv2.get hy
    have hzl : z < s.heap.objs.size := Heap.lt_size hz
    have l1 : i < its.toArray.size := by have := (List.getElem?_eq_some_iff.mp hu).1; simpa using this
    have l2 : i < its2.toArray.size := by have := (List.getElem?_eq_some_iff.mp hu2).1; simpa using this
    have S := sepK D
    have hd : X.A.handled = none := I.ok.hd hc
    refine wpAny_pyNext_zipD2_item (P1 := fun i v => its.toArray[i]? = some v) (P2 := fun i v => its2.toArray[i]? = some v) S (drawK k1 (by exact hd) i1 a D.l1i1 its.toArray) (drawK k2 (by exact hd) i2 b D.l2i2 its2.toArray) hz hTI hTO ⟨s1, p⟩ ⟨s2, p2⟩ l1 l2 fun v1 v2 h' tk e1 e2 z' TO' n1 n2 hT hsz hk => ?_
    have ev1 : v1 = u := by rw [List.getElem?_toArray, hu] at e1; exact (Option.some.inj e1).symm
    have ev2 : v2 = u2 := by rw [List.getElem?_toArray, hu2] at e2; exact (Option.some.inj e2).symm
    subst ev1 ev2
    refine ⟨_, rfl, wpAny_letOwnedTupleGo_zip (s := { s with heap := h', toks := tk }) z' fun h'' z'' sb => ?_⟩
    have hT2 : h''.get? s.heap.objs.size = some { cls := .type "tuple", data := .seq #[v1, v2] } := (sb.2 _ (Nat.ne_of_gt hzl)).trans hT
    have new : ObjOk X.prog X.w (upd H s.heap.objs.size (.tup [x, y])) h'' s.heap.objs.size (.tup [x, y]) := ⟨by show 2 ≤ sizeLine; decide, [v1, v2], .cons ru (.cons ru2 .nil), ⟨_, hT2, rfl, _, rfl⟩⟩
    have I1 : Inv X pins σ (upd H s.heap.objs.size (.tup [x, y])) { s with heap := h'', toks := tk } :=
      I.turnedNew (t' := tk) (ch := [z, TI, TO, i1, i2]) (fun c o hb q => (sb.2 c fun q' => hb (by simp [q'])).trans (hk c o (fun q' => hb (by simp [q'])) (fun q' => hb (by simp [q'])) (fun q' => hb (by simp [q'])) (fun q' => hb (by simp [q'])) q)) hf (Nat.le_refl _) new
    refine ⟨.ref s.heap.objs.size, _, I1, rfl, ⟨_, x, y, rfl, I.hok.fresh (Nat.le_refl _), rfl, fun l hl => by rw [inv_inj I hl hqx]; exact hx, fun l hl => by rw [inv_inj I hl hqy]; exact hy⟩, ⟨z'', (sb.2 _ D.TIz).trans (hk _ _ D.TIz D.TITO D.TIi1 D.TIi2 hTI), ⟨v1, v2, (sb.2 _ D.TOz).trans TO'⟩, n1.1.keep fun o q => (sb.2 _ D.i1z).trans q, n2.1.keep fun o q => (sb.2 _ D.i2z).trans q⟩, fun c hcm => ?_⟩
    have hlt : c < s.heap.objs.size := by
      rcases five hcm with rfl | rfl | rfl | rfl | rfl
      · exact hzl
      · exact Heap.lt_size hTI
      · exact Heap.lt_size hTO
      · obtain ⟨_, e, _⟩ := s1.ob; exact Heap.lt_size e
      · obtain ⟨_, e, _⟩ := s2.ob; exact Heap.lt_size e
    rw [upd_ne (Nat.ne_of_lt hlt)]
    exact (hf c hcm).1
  done := by
    intro X hP hw hK hc i pins s σ H E I hf st hg
    subst hP hw hK
    obtain ⟨hz, hTI, ⟨x0, y0, hTO⟩, s1, s2⟩ := st
    obtain ⟨xs, ys, hqx, hqy, hend⟩ := hg
    obtain ⟨its, rv, p, _⟩ := inv_K I hqx
    obtain ⟨its2, rv2, p2, _⟩ := inv_K I hqy
    have l1 : xs.length = its.toArray.size := by rw [List.size_toArray]; exact rv.length
    have l2 : ys.length = its2.toArray.size := by rw [List.size_toArray]; exact rv2.length
    have hd : X.A.handled = none := I.ok.hd hc
    exact wpAny_pyNext_zipD2_end (sepK D) (drawK k1 (by exact hd) i1 a D.l1i1 its.toArray) (drawK k2 (by exact hd) i2 b D.l2i2 its2.toArray) hz hTI hTO ⟨s1, p⟩ ⟨s2, p2⟩ (by omega) (by omega) (by omega) fun h' tk hk => ⟨rfl, I.turnedL (t' := tk) (ch := [z, TI, TO, i1, i2]) (fun c o hb q =>
      hk c o (fun q' => hb (by simp [q'])) (fun q' => hb (by simp [q'])) (fun q' => hb (by simp [q'])) (fun q' => hb (by simp [q'])) q) hf⟩
  self := fun A i s Q E st h => wpAny_pyIter_zip st.1 h
/-- zip of two rows of any kind -/
def iZipK (K : PySem.W.Frag) (ta : TA) : TI := fun σ H R => ta σ H fun vs H1 => ∃ k1 k2 a b xs ys, vs = [.ref a, .ref b] ∧ SqK K k1 H1 a xs ∧ SqK K k2 H1 b ys ∧ R (ItK K k1 k2 a b) H1
theorem pi_zipK {X : Cx} {e e2 : Expr} {ta : TA} {p pos tpos : Pos} {elts : List Expr} {kk : Nat} (hg : Gl X "zip") (hm : X.mg "zip" = none) (ha : PA X [e, e2] ta)
    (hs : starEach [e, e2] X.env = (false, eval e X.env) :: starEach [e2] X.env := by rfl) (hpl : (backTo pos (starEach [e2] X.env)).any (·.1) = false := by rfl) :
    PI X (.Tuple elts kk tpos) (.Call (.Name "zip" p) [e, e2] [] pos) (iZipK X.K ta) := by
  refine ⟨fun pins s σ H R I h => Call_ (ld_blt I hg hm PyProof.Rows.boot_zip (PyProof.Rows.callWith_type1 (thn (ha.run pos pins s σ H _ I h) fun us s1 ⟨vs, H1, I1, r1, q1⟩ => ?_) hs hpl))⟩
  obtain ⟨k1, k2, a, b, xs, ys, ex, hqx, hqy, q⟩ := q1
  subst ex
  cases r1 with
  | cons r rr =>
    cases rr with
    | cons r' rr =>
      cases rr
      cases r
      cases r'
      obtain ⟨its, rv, p1, la⟩ := inv_K I1 hqx
      obtain ⟨its2, rv2, p2, lb⟩ := inv_K I1 hqy
      refine zip_begins2 (begK k1 a its.toArray) (begK k2 b its2.toArray) p1 p2 fun h' hz hTI hTO g1 g2 hsz hk => wpAny_pyIter_zip hz ?_
      have I2 : Inv X pins σ H1 { s1 with heap := h' } := I1.kept (t' := s1.toks) hk
      refine ⟨s1.heap.objs.size + 4, [s1.heap.objs.size + 4, s1.heap.objs.size + 2, s1.heap.objs.size + 3, s1.heap.objs.size, s1.heap.objs.size + 1], _, _, H1, rfl, I2, turn_K (PySem.W.ktu_apart s1.heap.objs.size a b la lb), ⟨hz, hTI, ⟨_, _, hTO⟩, atK_new g1, atK_new g2⟩, fun c hcm => ?_, q⟩
      have hle : s1.heap.objs.size ≤ c := by rcases five hcm with rfl | rfl | rfl | rfl | rfl <;> omega
      exact I1.fpOk hle (I1.hok.fresh hle)
theorem seqK {K : PySem.W.Frag} {G H : Hp} {a : Addr} {xs : List V} (e : Ex G H) (h : SqL K G a xs ∨ SqT K G a xs) : ∃ k, SqK K k G a xs := by
  rcases h with h | h
  · exact ⟨false, h⟩
  · exact ⟨true, h⟩
theorem ri_zipK {E : En} {ε : Ep} {μ : Mu} {tA : TA} {Ψ : List D → Mu → Prop} (h : RA E tA ε μ fun ws μ1 => ∃ d1 d2 ds es, ws = [.dat d1, .dat d2] ∧ d1.seq = some ds ∧ d2.seq = some es ∧ Ψ (zpd ds es) μ1) : RI E (iZipK E.K tA) ε μ Ψ := fun σ G H C X R k => h σ G H C X _ fun vs ws G1 H1 μ1 S1 s1 rs ⟨d1, d2, ds, es, e, e1, e2, q⟩ => by
  subst e
  cases rs with
  | cons r r2 =>
    cases r2 with
    | cons r3 r4 =>
      cases r4
      obtain ⟨a, xs, rfl, hq, ha⟩ := Dr.seqOf (show Dr E.K G1 _ d1 from r) e1
      obtain ⟨b, ys, rfl, hq2, ha2⟩ := Dr.seqOf (show Dr E.K G1 _ d2 from r3) e2
      obtain ⟨k1, hq⟩ := seqK S1.gh hq
      obtain ⟨k2, hq2⟩ := seqK S1.gh hq2
      refine ⟨k1, k2, a, b, xs, ys, rfl, hq.up S1.gh, hq2.up S1.gh, ?_⟩
      refine k (ItK E.K k1 k2 a b) (zpd ds es) (fun H' => SqK E.K k1 H' a xs ∧ SqK E.K k2 H' b ys) _ G1 H1 μ1 S1 s1 (walk_K (by simp [zpd, ha.length, ha2.length])) (fun H' e => ⟨hq.up e, hq2.up e⟩) (fun i H' x H'' G' μ' S' e' hi y => ?_) q
      obtain ⟨T, u, v, rfl, hT, rfl, h1, h2⟩ := y
      obtain ⟨d1, h3, h4⟩ := ha.get' h1
      obtain ⟨d2, h5, h6⟩ := ha2.get' h2
      obtain ⟨G2, d3, a1, a2, rfl, a4⟩ := pair_new (G1 := G1) S' hT (h4.up e') (h6.up e')
      exact ⟨G2, _, a1, a2, zpd_at h3 h5, a4⟩
section
variable {E : En} {ε : Ep} {μ : Mu} {te : TE} {tt : TT} {wi : TI} {g : TG} {vs : List Nat} {Ψ : W → Mu → Prop} {α : Type}
/-- a comprehension over the data of a plain list -/
theorem re_lcA (xs : List α) (dn f : α → D) (p : α → Bool) (hi : RI E wi ε μ fun ds μ1 => ds = xs.map dn ∧ xs.length ≤ 1000000 ∧ (∀ x ∈ xs, RGW E.mute vs g (.dat (dn x)) (wipeE ε vs) μ1 fun ε2 μ3 => μ3 = μ1 ∧ RT E.mute tt ε2 μ1 fun b μ4 => b = p x ∧ μ4 = μ1 ∧ (b = true → RE E.mute te ε2 μ1 fun w μ5 => w = .dat (f x) ∧ μ5 = μ1)) ∧
    DL (((xs.filter p).map f).map .dat) μ1 Ψ) : RE E (tLc wi g tt te vs) ε μ Ψ := by
  refine re_lc fun σ G H C X R k => hi σ G H C X R fun J ds Gi Y G1 H1 μ1 S1 s1 w hg hy ⟨e, hz, hs, q⟩ => k J ds Gi Y G1 H1 μ1 S1 s1 w hg hy ?_
  subst e
  refine ⟨fun i acc μ' => μ1 = μ' ∧ acc = (((xs.take i).filter p).map f).map .dat, ⟨rfl, rfl⟩, ?_, ?_⟩
  · rintro i d acc _ hd hl ⟨rfl, rfl⟩
    rw [List.getElem?_map] at hd
    obtain ⟨x, hx, rfl⟩ := Option.map_eq_some_iff.mp hd
    have hil := (List.getElem?_eq_some_iff.mp hx).1
    have h1 := hs x (List.mem_of_getElem? hx)
    refine fun σ G H C v r Q kq => h1 σ G H C v r Q fun σ' ε' G' H' μ' S' s' w' ⟨e, ht⟩ => ?_
    subst e
    refine kq σ' ε' G' H' _ S' s' w' fun σ G H C X Q k2 => ht σ G H C X Q fun b G3 H3 μ3 S3 s3 ⟨hb, e3, he⟩ => ?_
    subst e3
    refine k2 b G3 H3 _ S3 s3 ⟨fun z => re_mono (he z) fun w μ5 ⟨e1, e2⟩ => ?_, fun z => ⟨rfl, ?_⟩⟩
    · subst e1 e2
      refine ⟨len_lt (by omega), rfl, ?_⟩
      rw [filter_take_snoc p hx, if_pos (by rw [← hb, z]), List.map_append, List.map_append]
      rfl
    · rw [filter_take_snoc p hx, if_neg (by rw [← hb, z]; exact Bool.false_ne_true), List.append_nil]
  · rintro acc _ hl ⟨rfl, rfl⟩
    rw [List.length_map, List.take_length]
    exact q
/-- no test -/
theorem re_lcB (xs : List α) (dn f : α → D) (hi : RI E wi ε μ fun ds μ1 => ds = xs.map dn ∧ xs.length ≤ 1000000 ∧ (∀ x ∈ xs, RGW E.mute vs g (.dat (dn x)) (wipeE ε vs) μ1 fun ε2 μ3 => μ3 = μ1 ∧ RE E.mute te ε2 μ1 fun w μ5 => w = .dat (f x) ∧ μ5 = μ1) ∧ DL ((xs.map f).map .dat) μ1 Ψ) : RE E (tLc wi g tYes te vs) ε μ Ψ := by
  refine re_lcA xs dn f (fun _ => true) fun σ G H C X R k => hi σ G H C X R fun J ds Gi Y G1 H1 μ1 S1 s1 w hg hy ⟨e, hz, hs, q⟩ => k J ds Gi Y G1 H1 μ1 S1 s1 w hg hy ⟨e, hz, fun d hd => ?_, ?_⟩
  · exact fun σ G H C v r Q kq => hs d hd σ G H C v r Q fun σ' ε' G' H' μ' S' s' w' ⟨e, he⟩ => kq σ' ε' G' H' μ' S' s' w' ⟨e, rt_v vt_yes ⟨rfl, rfl, fun _ => he⟩⟩
  · rw [List.filter_eq_self.mpr fun _ _ => rfl]; exact q
theorem zpd_map {β : Type} (f : α → D) (h : β → D) : ∀ (xs : List α) (ys : List β), zpd (xs.map f) (ys.map h) = (xs.zip ys).map fun q => D.tup [f q.1, h q.2]
  | [], _ => rfl
  | _ :: _, [] => rfl
  | x :: xs, y :: ys => by
    have := zpd_map f h xs ys
    unfold zpd at this ⊢
    rw [List.map_cons, List.map_cons, List.zipWith_cons_cons, this]; rfl
end
end Sn

/-! Sn: classes modulo numbers, in plain Lean. -/
namespace Sn
open PySem L2
/-! ### the parts of a number are one -/
theorem pairs_ext {as bs : List (Int × Int)} (ha : as.Pairwise fun a b => a.1 < b.1) (hb : bs.Pairwise fun a b => a.1 < b.1) (h : ∀ x, x ∈ as ↔ x ∈ bs) : as = bs := by
  induction as generalizing bs with
  | nil =>
    cases bs with
    | nil => rfl
    | cons b bs => exact absurd ((h b).mpr List.mem_cons_self) List.not_mem_nil
  | cons a as ih =>
    cases bs with
    | nil => exact absurd ((h a).mp List.mem_cons_self) List.not_mem_nil
    | cons b bs =>
      obtain ⟨ha1, ha2⟩ := List.pairwise_cons.mp ha
      obtain ⟨hb1, hb2⟩ := List.pairwise_cons.mp hb
      have e : a = b := by
        rcases List.mem_cons.mp ((h a).mp List.mem_cons_self) with z | z
        · exact z
        · rcases List.mem_cons.mp ((h b).mpr List.mem_cons_self) with y | y
          · exact y.symm
          · have := ha1 b y; have := hb1 a z; omega
      subst e
      have : as = bs := ih ha2 hb2 fun x => by
        constructor
        · intro hx
          rcases List.mem_cons.mp ((h x).mp (List.mem_cons_of_mem _ hx)) with z | z
          · subst z; have := ha1 x hx; omega
          · exact z
        · intro hx
          rcases List.mem_cons.mp ((h x).mpr (List.mem_cons_of_mem _ hx)) with z | z
          · subst z; have := hb1 x hx; omega
          · exact z
      rw [this]
theorem prodF_app (r : Int) (as bs : List (Int × Int)) : prodF r (as ++ bs) = prodF (prodF r as) bs := by
  unfold prodF
  rw [List.foldl_append]
theorem prodF_out (r : Int) (q : Int × Int) (as bs : List (Int × Int)) : prodF r (as ++ q :: bs) = q.1 ^ q.2.toNat * prodF r (as ++ bs) := by
  rw [prodF_app, prodF_app]
  show prodF (prodF r as * _) bs = _
  rw [Int.mul_comm, prodF_mul]
theorem prodF_pos : ∀ {ps : List (Int × Int)} {r : Int}, (∀ q ∈ ps, IsP q.1 ∧ q.1 ≤ 997 ∧ 1 ≤ q.2) → 1 ≤ r → 1 ≤ prodF r ps
  | [], r, _, h => h
  | q :: ps, r, hq, h => by
    have h1 : 0 < q.1 ^ q.2.toNat := Int.pow_pos (by have := (hq q List.mem_cons_self).1.1; omega)
    exact prodF_pos (ps := ps) (r := r * q.1 ^ q.2.toNat) (fun q' h' => hq q' (List.mem_cons_of_mem _ h')) (Int.mul_pos (show 0 < r by omega) h1)
theorem Parts.mem {n r : Int} {ps : List (Int × Int)} (h : Parts n ps r) (p e : Int) : (p, e) ∈ ps ↔ IsP p ∧ p ≤ 997 ∧ 1 ≤ e ∧ e = ((splF p n).1 : Nat) := by
  have n0 : n ≠ 0 := by
    have := prodF_pos h.pm h.r1
    rw [← h.pr] at this
    omega
  have go : ∀ p e, (p, e) ∈ ps → e = ((splF p n).1 : Nat) := fun p e hm => by
    obtain ⟨hp, hp9, he⟩ := h.pm _ hm
    dsimp only at hp hp9 he
    obtain ⟨as, bs, e1⟩ := List.append_of_mem hm
    have hso := h.so
    have hpm := h.pm
    have hpr := h.pr
    rw [e1] at hso hpm hpr
    rw [prodF_out] at hpr
    dsimp only at hpr
    have hnd : ¬ p ∣ prodF r (as ++ bs) := fun z => by
      rcases prime_prod hp z with y | ⟨q, hq, y⟩
      · exact h.no p hp.1 hp9 y
      · obtain ⟨hs1, hs2, hs3⟩ := List.pairwise_append.mp hso
        rcases List.mem_append.mp hq with hq | hq
        · have h1 := isP_eq hp (hpm q (List.mem_append_left _ hq)).1 y
          have h2 := hs3 q hq (p, e) List.mem_cons_self
          dsimp only at h2
          omega
        · have h1 := isP_eq hp (hpm q (List.mem_append_right _ (List.mem_cons_of_mem _ hq))).1 y
          have h2 := (List.pairwise_cons.mp hs2).1 q hq
          dsimp only at h2
          omega
    rw [splF_of hp.1 n0 hpr hnd]
    show e = (e.toNat : Int)
    omega
  constructor
  · intro hm
    obtain ⟨hp, hp9, he⟩ := h.pm _ hm
    exact ⟨hp, hp9, he, go p e hm⟩
  · rintro ⟨hp, hp9, he, e1⟩
    obtain ⟨a, b⟩ := splF_ok hp.1 n0
    have hd : p ∣ n := by
      rw [a]
      exact Int.dvd_trans (pow_dvd1 p (by omega)) (Int.dvd_mul_right ..)
    rw [h.pr] at hd
    rcases prime_prod hp hd with y | ⟨q, hq, y⟩
    · exact (h.no p hp.1 hp9 y).elim
    · have h1 := isP_eq hp (h.pm q hq).1 y
      obtain ⟨q1, q2⟩ := q
      dsimp only at h1
      subst h1
      have := go p q2 hq
      rw [e1, ← this]
      exact hq
theorem Parts.uniq {n r r' : Int} {ps qs : List (Int × Int)} (h : Parts n ps r) (k : Parts n qs r') : ps = qs ∧ r = r' := by
  have e : ps = qs := pairs_ext h.so k.so fun x => by
    obtain ⟨p, e⟩ := x
    rw [h.mem, k.mem]
  subst e
  refine ⟨rfl, ?_⟩
  have h1 := h.pr.symm.trans k.pr
  have e1 := prodF_mul r ps 1
  have e2 := prodF_mul r' ps 1
  rw [Int.mul_one] at e1 e2
  rw [e1, e2] at h1
  have hp := prodF_pos h.pm (Int.le_refl 1)
  exact Int.eq_of_mul_eq_mul_right (by omega) h1
theorem pf_parts {n : Int} (h1 : 1 ≤ n) (h2 : n ≤ 900) : Parts n (pf n) 1 := by
  have ok := ppF_ok h1
  have p := pf_ok h1 h2
  refine ⟨by decide, p.p, fun q hq => ⟨(p.m q hq).1.2, (p.m q hq).1.1, (p.m q hq).2.1⟩, p.s, fun e e1 e2 hd => ?_, p.l⟩
  have := Int.le_of_dvd (by decide) hd
  omega
theorem pf_rest {n : Int} (h1 : 1 ≤ n) (h2 : n ≤ 900) : ppF n = (pf n, 1) := by
  have := (ppF_ok h1).uniq (pf_parts h1 h2)
  exact Prod.ext rfl this.2
theorem pf_one : pf 1 = [] := by
  have := (pf_parts (n := 1) (by decide) (by decide)).uniq (qs := []) (r' := 1) ⟨by decide, rfl, fun q h => (by cases h), .nil, fun e e1 e2 hd => by have := Int.le_of_dvd (by decide) hd; omega, by decide⟩
  exact this.1
theorem pf_mem {n : Int} (h1 : 1 ≤ n) (h2 : n ≤ 900) (p e : Int) : (p, e) ∈ pf n ↔ IsP p ∧ p ≤ 997 ∧ 1 ≤ e ∧ e = ((splF p n).1 : Nat) := (pf_parts h1 h2).mem p e
theorem pf_div {n d : Int} (h1 : 1 ≤ n) (h2 : n ≤ 900) (d1 : 1 ≤ d) (hd : d ∣ n) : pf d = ((pf n).filter fun q => decide (d % q.1 = 0)).map fun q => (q.1, ((splF q.1 d).1 : Int)) := by
  have dn := Int.le_of_dvd (by omega) hd
  have ok := pf_parts h1 h2
  have okd := pf_parts d1 (by omega)
  have sp : ∀ {p m : Int}, IsP p → m ≠ 0 → (p ∣ m ↔ 1 ≤ (splF p m).1) := fun {p m} hp hm => by
    obtain ⟨a, b⟩ := splF_ok hp.1 hm
    constructor
    · intro z
      rcases Nat.eq_zero_or_pos (splF p m).1 with y | y
      · rw [y, Int.pow_zero, Int.one_mul] at a
        rw [a] at z
        exact (b z).elim
      · exact y
    · intro z
      rw [a]
      exact Int.dvd_trans (pow_dvd1 p z) (Int.dvd_mul_right ..)
  refine pairs_ext okd.so ?_ fun x => ?_
  · rw [List.pairwise_map]
    exact ok.so.sublist List.filter_sublist
  · obtain ⟨p, e⟩ := x
    rw [okd.mem, List.mem_map]
    constructor
    · rintro ⟨hp, hp9, he, e1⟩
      have hpd : p ∣ d := (sp hp (by omega)).mpr (by omega)
      have hpn : p ∣ n := Int.dvd_trans hpd hd
      refine ⟨(p, ((splF p n).1 : Int)), List.mem_filter.mpr ⟨(ok.mem _ _).mpr ⟨hp, hp9, ?_, rfl⟩, decide_eq_true (Int.emod_eq_zero_of_dvd hpd)⟩, by rw [e1]⟩
      have := (sp hp (by omega)).mp hpn
      omega
    · rintro ⟨⟨q, f⟩, hq, e1⟩
      obtain ⟨hq1, hq2⟩ := List.mem_filter.mp hq
      obtain ⟨hp, hp9, _, _⟩ := (ok.mem q f).mp hq1
      cases e1
      have := (sp hp (by omega)).mp (Int.dvd_of_emod_eq_zero (of_decide_eq_true hq2))
      exact ⟨hp, hp9, by dsimp only; omega, rfl⟩
/-- divisible by all powers, so by the number -/
theorem parts_dvd {z : Int} : ∀ {ps : List (Int × Int)} {r : Int}, (∀ q ∈ ps, IsP q.1) → ps.Pairwise (fun a b => a.1 < b.1) → (∀ q ∈ ps, Int.gcd r (q.1 ^ q.2.toNat) = 1) → r ∣ z → (∀ q ∈ ps, q.1 ^ q.2.toNat ∣ z) → prodF r ps ∣ z
  | [], r, _, _, _, h, _ => h
  | q :: ps, r, hp, hs, hg, h, hq => by
    obtain ⟨s1, s2⟩ := List.pairwise_cons.mp hs
    have g0 := hg q List.mem_cons_self
    refine parts_dvd (ps := ps) (r := r * q.1 ^ q.2.toNat) (fun q' h' => hp q' (List.mem_cons_of_mem _ h')) s2 (fun q' h' => ?_) ?_ fun q' h' => hq q' (List.mem_cons_of_mem _ h')
    · refine gcd_mul_one (hg q' (List.mem_cons_of_mem _ h')) ?_
      refine isP_pow_gcd (hp q List.mem_cons_self) (fun y => ?_) _
      have h1 := isP_eq (hp q List.mem_cons_self) (hp q' (List.mem_cons_of_mem _ h')) (prime_pow (hp q List.mem_cons_self) y)
      have h2 := s1 q' h'
      omega
    · obtain ⟨c, hc⟩ := h
      have h1 := hq q List.mem_cons_self
      rw [hc] at h1
      have h2 : q.1 ^ q.2.toNat ∣ c := gauss (by rw [Int.gcd_comm]; exact g0) h1
      rw [hc]
      exact Int.mul_dvd_mul_left r h2
theorem pf_dvd {n z : Int} (h1 : 1 ≤ n) (h2 : n ≤ 900) : n ∣ z ↔ ∀ q ∈ pf n, q.1 ^ q.2.toNat ∣ z := by
  have ok := pf_ok h1 h2
  constructor
  · intro h q hq
    exact Int.dvd_trans (ok.m q hq).2.2.2 h
  · intro h
    have := parts_dvd (z := z) (r := 1) (fun q hq => (ok.m q hq).1.2) ok.s (fun q _ => by rw [Int.gcd_one_left]) (Int.one_dvd z) h
    rwa [← ok.p] at this
/-! ### items -/
def Itm (p : Int) (e : Nat) (c : Int × Int) : Prop := (c.2 = 1 ∧ 0 ≤ c.1 ∧ c.1 < p ^ e) ∨ (c.1 = 1 ∧ 0 ≤ c.2 ∧ c.2 < p ^ e ∧ p ∣ c.2 ∧ c.2 ≠ 1)
theorem no_one {p : Int} (hp : 2 ≤ p) : ¬ p ∣ 1 := fun h => by have := Int.le_of_dvd (by decide) h; omega
theorem Cls.itm {x y p c0 c1 : Int} {e : Nat} (hp : 2 ≤ p) (he : 1 ≤ e) (h : Cls x y p e c0 c1) : Itm p e (c0, c1) := by
  rcases h with ⟨z, _⟩ | ⟨_, rfl, h1, h2, _⟩ | ⟨_, rfl, h1, h2, h3, _⟩
  · omega
  · exact .inl ⟨rfl, h1, h2⟩
  · refine .inr ⟨rfl, h1, h2, h3, fun z => ?_⟩
    dsimp only at z
    rw [z] at h3
    exact no_one hp h3
theorem Cls.near {x y p c0 c1 : Int} {e : Nat} (h : Cls x y p e c0 c1) : p ^ e ∣ x * c1 - y * c0 := by
  rcases h with ⟨rfl, rfl, rfl⟩ | ⟨_, rfl, _, _, h⟩ | ⟨_, rfl, _, _, _, h⟩
  · rw [Int.pow_zero]; exact Int.one_dvd _
  · rwa [Int.mul_one]
  · rwa [Int.mul_one]
/-- a class of a pair that no prime divides -/
theorem cls_of {x y p : Int} {e : Nat} {c : Int × Int} (he : 1 ≤ e) (h : Itm p e c) (hn : p ^ e ∣ x * c.2 - y * c.1) : Cls x y p e c.1 c.2 := by
  rcases h with ⟨h1, h2, h3⟩ | ⟨h1, h2, h3, h4, _⟩
  · rw [h1, Int.mul_one] at hn
    exact .inr (.inl ⟨he, h1, h2, h3, hn⟩)
  · rw [h1, Int.mul_one] at hn
    exact .inr (.inr ⟨he, h1, h2, h3, h4, hn⟩)
theorem small_eq {P a b : Int} (ha : 0 ≤ a) (ha2 : a < P) (hb : 0 ≤ b) (hb2 : b < P) (h : P ∣ a - b) : a = b := by
  have h1 := Int.emod_emod_of_dvd a (Int.dvd_refl P)
  have h4 := Int.emod_eq_emod_iff_emod_sub_eq_zero.mpr (Int.emod_eq_zero_of_dvd h)
  rw [Int.emod_eq_of_lt ha ha2, Int.emod_eq_of_lt hb hb2] at h4
  exact h4
theorem pow_cop {p a : Int} {e : Nat} (hp : IsP p) (h : ¬ p ∣ a) {b : Int} : p ^ e ∣ a * b ↔ p ^ e ∣ b := ⟨fun z => gauss (isP_pow_gcd hp h e) z, fun z => Int.dvd_mul_of_dvd_right z⟩
theorem not_both {p x y : Int} (hp : 2 ≤ p) (hg : Int.gcd x y = 1) : ¬ (p ∣ x ∧ p ∣ y) := fun ⟨h1, h2⟩ => by
  have h3 := Int.dvd_coe_gcd h1 h2
  rw [hg] at h3
  exact no_one hp h3
theorem not_mul {p a b : Int} (hp : IsP p) (ha : ¬ p ∣ a) (hb : ¬ p ∣ b) : ¬ p ∣ a * b := fun h => by
  rcases prime_mul hp h with h | h
  · exact ha h
  · exact hb h
theorem cls_near {x y u v p c0 c1 d0 d1 : Int} {e : Nat} (hp : IsP p) (he : 1 ≤ e) (hf : Int.gcd x y = 1) (hg : Int.gcd u v = 1) (h : Cls x y p e c0 c1) (k : Cls u v p e d0 d1) : (c0 = d0 ∧ c1 = d1) ↔ p ^ e ∣ x * v - y * u := by
  have hp2 := hp.1
  have hpe : p ∣ p ^ e := pow_dvd1 p he
  rcases h with ⟨z, _⟩ | ⟨_, rfl, h1, h2, h3⟩ | ⟨_, rfl, h1, h2, h3, h4⟩
  · omega
  all_goals rcases k with ⟨z, _⟩ | ⟨_, rfl, k1, k2, k3⟩ | ⟨_, rfl, k1, k2, k3, k4⟩
  · omega
  · have ny : ¬ p ∣ y := fun z => by
      have h5 := Int.dvd_add (Int.dvd_trans hpe h3) (Int.dvd_mul_of_dvd_left (c := c0) z)
      rw [Int.sub_add_cancel] at h5
      exact not_both hp2 hf ⟨h5, z⟩
    have nv : ¬ p ∣ v := fun z => by
      have h5 := Int.dvd_add (Int.dvd_trans hpe k3) (Int.dvd_mul_of_dvd_left (c := d0) z)
      rw [Int.sub_add_cancel] at h5
      exact not_both hp2 hg ⟨h5, z⟩
    have e1 : x * v - y * u = (y * v) * (c0 - d0) + ((x - y * c0) * v - y * (u - v * d0)) := by grind
    have e2 : p ^ e ∣ (x - y * c0) * v - y * (u - v * d0) := Int.dvd_sub (Int.dvd_mul_of_dvd_left h3) (Int.dvd_mul_of_dvd_right k3)
    constructor
    · rintro ⟨rfl, _⟩
      rw [e1, Int.sub_self, Int.mul_zero, Int.zero_add]
      exact e2
    · intro z
      have h5 := Int.dvd_sub z e2
      rw [e1, Int.add_sub_cancel] at h5
      exact ⟨small_eq h1 h2 k1 k2 ((pow_cop hp (not_mul hp ny nv)).mp h5), rfl⟩
  · refine ⟨fun z => ?_, fun z => ?_⟩
    · rw [← z.2] at k3
      exact (no_one hp2 k3).elim
    exfalso
    have ny : ¬ p ∣ y := fun z => by
      have h5 := Int.dvd_add (Int.dvd_trans hpe h3) (Int.dvd_mul_of_dvd_left (c := c0) z)
      rw [Int.sub_add_cancel] at h5
      exact not_both hp2 hf ⟨h5, z⟩
    have nu : ¬ p ∣ u := fun z => by
      have h5 := Int.dvd_sub (Int.dvd_mul_of_dvd_left (c := d1) z) (Int.dvd_trans hpe k4)
      rw [Int.sub_sub_self] at h5
      exact not_both hp2 hg ⟨z, h5⟩
    have z1 := Int.dvd_trans hpe z
    have e1 : y * u = y * c0 * (u * d1) - ((x * v - y * u) - (x - y * c0) * v + y * c0 * (u * d1 - v)) := by grind
    have : p ∣ y * u := by
      rw [e1]
      exact Int.dvd_sub (Int.dvd_mul_of_dvd_right (Int.dvd_mul_of_dvd_right k3)) (Int.dvd_add (Int.dvd_sub z1 (Int.dvd_mul_of_dvd_left (Int.dvd_trans hpe h3))) (Int.dvd_mul_of_dvd_right (Int.dvd_trans hpe k4)))
    exact not_mul hp ny nu this
  · omega
  · refine ⟨fun z => ?_, fun z => ?_⟩
    · rw [z.2] at h3
      exact (no_one hp2 h3).elim
    exfalso
    have nx : ¬ p ∣ x := fun z => by
      have h5 := Int.dvd_sub (Int.dvd_mul_of_dvd_left (c := c1) z) (Int.dvd_trans hpe h4)
      rw [Int.sub_sub_self] at h5
      exact not_both hp2 hf ⟨z, h5⟩
    have nv : ¬ p ∣ v := fun z => by
      have h5 := Int.dvd_add (Int.dvd_trans hpe k3) (Int.dvd_mul_of_dvd_left (c := d0) z)
      rw [Int.sub_add_cancel] at h5
      exact not_both hp2 hg ⟨h5, z⟩
    have z1 := Int.dvd_trans hpe z
    have e1 : x * v = (x * v - y * u) - (x * c1 - y) * u + x * c1 * (u - v * d0) + x * c1 * (v * d0) := by grind
    have : p ∣ x * v := by
      rw [e1]
      exact Int.dvd_add (Int.dvd_add (Int.dvd_sub z1 (Int.dvd_mul_of_dvd_left (Int.dvd_trans hpe h4))) (Int.dvd_mul_of_dvd_right (Int.dvd_trans hpe k3))) (Int.dvd_mul_of_dvd_left (Int.dvd_mul_of_dvd_right h3))
    exact not_mul hp nx nv this
  · have nx : ¬ p ∣ x := fun z => by
      have h5 := Int.dvd_sub (Int.dvd_mul_of_dvd_left (c := c1) z) (Int.dvd_trans hpe h4)
      rw [Int.sub_sub_self] at h5
      exact not_both hp2 hf ⟨z, h5⟩
    have nu : ¬ p ∣ u := fun z => by
      have h5 := Int.dvd_sub (Int.dvd_mul_of_dvd_left (c := d1) z) (Int.dvd_trans hpe k4)
      rw [Int.sub_sub_self] at h5
      exact not_both hp2 hg ⟨z, h5⟩
    have e1 : x * v - y * u = (x * u) * (d1 - c1) + ((x * c1 - y) * u - x * (u * d1 - v)) := by grind
    have e2 : p ^ e ∣ (x * c1 - y) * u - x * (u * d1 - v) := Int.dvd_sub (Int.dvd_mul_of_dvd_left h4) (Int.dvd_mul_of_dvd_right k4)
    constructor
    · rintro ⟨_, rfl⟩
      rw [e1, Int.sub_self, Int.mul_zero, Int.zero_add]
      exact e2
    · intro z
      have h5 := Int.dvd_sub z e2
      rw [e1, Int.add_sub_cancel] at h5
      exact ⟨rfl, (small_eq k1 k2 h1 h2 ((pow_cop hp (not_mul hp nx nu)).mp h5)).symm⟩
/-! ### rows of items -/
def ItR (ps cs : List (Int × Int)) : Prop := cs.length = ps.length ∧ ∀ (i : Nat) (q c : Int × Int), ps[i]? = some q → cs[i]? = some c → Itm q.1 q.2.toNat c
theorem clsM_itR {x y n : Int} {cs : List (Int × Int)} (h1 : 1 ≤ n) (h2 : n ≤ 900) (h : ClsM x y n cs) : ItR (pf n) cs := ⟨h.1, fun i q c a b => (h.2 i q c a b).itm ((pf_ok h1 h2).m q (List.mem_of_getElem? a)).1.2.1 (by have := ((pf_ok h1 h2).m q (List.mem_of_getElem? a)).2.1; omega)⟩
theorem clsM_near {x y u v n : Int} {cs ds : List (Int × Int)} (h1 : 1 ≤ n) (h2 : n ≤ 900) (hf : Int.gcd x y = 1) (hg : Int.gcd u v = 1) (h : ClsM x y n cs) (k : ClsM u v n ds) : cs = ds ↔ n ∣ x * v - y * u := by
  have ok := pf_ok h1 h2
  rw [pf_dvd h1 h2]
  have one : ∀ i (hi : i < (pf n).length), cs[i]? = ds[i]? ↔ (pf n)[i].1 ^ (pf n)[i].2.toNat ∣ x * v - y * u := fun i hi => by
    have e1 : cs[i]? = some (cs[i]'(by rw [h.1]; exact hi)) := List.getElem?_eq_getElem _
    have e2 : ds[i]? = some (ds[i]'(by rw [k.1]; exact hi)) := List.getElem?_eq_getElem _
    have e3 : (pf n)[i]? = some (pf n)[i] := List.getElem?_eq_getElem _
    have m := ok.m _ (List.getElem_mem hi)
    rw [e1, e2, ← cls_near m.1.2 (by have := m.2.1; omega) hf hg (h.2 i _ _ e3 e1) (k.2 i _ _ e3 e2)]
    constructor
    · intro z
      have z := Option.some.inj z
      exact ⟨congrArg Prod.fst z, congrArg Prod.snd z⟩
    · rintro ⟨a, b⟩
      exact congrArg some (Prod.ext a b)
  constructor
  · rintro rfl q hq
    obtain ⟨i, hi, rfl⟩ := List.mem_iff_getElem.mp hq
    exact (one i hi).mp rfl
  · intro z
    refine List.ext_getElem? fun i => ?_
    rcases Nat.lt_or_ge i (pf n).length with y | y
    · exact (one i y).mpr (z _ (List.getElem_mem y))
    · rw [List.getElem?_eq_none (by rw [h.1]; exact y), List.getElem?_eq_none (by rw [k.1]; exact y)]
theorem clsM_uniq {x y n : Int} {cs ds : List (Int × Int)} (h1 : 1 ≤ n) (h2 : n ≤ 900) (hf : Int.gcd x y = 1) (h : ClsM x y n cs) (k : ClsM x y n ds) : cs = ds := (clsM_near h1 h2 hf hf h k).mpr (by rw [Int.mul_comm, Int.sub_self]; exact Int.dvd_zero _)
/-! ### keys and places -/
def ckL (cs : List (Int × Int)) : List Int := cs.flatMap fun c => if c.2 = 1 then [0, c.1] else [1, c.2]
theorem ckL_len : ∀ cs : List (Int × Int), (ckL cs).length = 2 * cs.length
  | [] => rfl
  | c :: cs => by
    have := ckL_len cs
    unfold ckL at this ⊢
    rw [List.flatMap_cons, List.length_append, this, List.length_cons]
    split <;> (simp only [List.length_cons, List.length_nil]; omega)
def plc (q c : Int × Int) : Int := if c.2 = 1 then c.1 else q.1 ^ q.2.toNat + c.2 / q.1
def plL (ps cs : List (Int × Int)) : List Int := List.zipWith plc ps cs
theorem ItR.cons {q c : Int × Int} {ps cs : List (Int × Int)} (h : ItR (q :: ps) (c :: cs)) : Itm q.1 q.2.toNat c ∧ ItR ps cs := ⟨h.2 0 q c rfl rfl, by have := h.1; simp only [List.length_cons] at this; omega, fun i a b h1 h2 => h.2 (i + 1) a b (by simpa using h1) (by simpa using h2)⟩
theorem ItR.mk {q c : Int × Int} {ps cs : List (Int × Int)} (h : Itm q.1 q.2.toNat c) (k : ItR ps cs) : ItR (q :: ps) (c :: cs) := ⟨by have := k.1; simp only [List.length_cons]; omega, fun i a b h1 h2 => by
  cases i with
  | zero => cases h1; cases h2; exact h
  | succ i => exact k.2 i a b (by simpa using h1) (by simpa using h2)⟩
theorem plc_lt {q c d : Int × Int} (hq : 2 ≤ q.1) (h : Itm q.1 q.2.toNat c) (k : Itm q.1 q.2.toNat d) : (plc q c = plc q d ↔ c = d) ∧ (plc q c < plc q d ↔ (if c.2 = 1 then (0 : Int) else 1) < (if d.2 = 1 then 0 else 1) ∨ ((if c.2 = 1 then (0 : Int) else 1) = (if d.2 = 1 then 0 else 1) ∧ (if c.2 = 1 then c.1 else c.2) < (if d.2 = 1 then d.1 else d.2))) := by
  obtain ⟨p, e⟩ := q
  obtain ⟨a, b⟩ := c
  obtain ⟨a', b'⟩ := d
  unfold plc
  dsimp only at h k hq ⊢
  have mono : ∀ {s t : Int}, p ∣ s → p ∣ t → 0 ≤ s → 0 ≤ t → (s / p = t / p ↔ s = t) ∧ (s / p < t / p ↔ s < t) ∧ 0 ≤ s / p := fun {s t} h1 h2 h3 h4 => by
    obtain ⟨m, rfl⟩ := h1
    obtain ⟨k, rfl⟩ := h2
    rw [Int.mul_ediv_cancel_left m (by omega), Int.mul_ediv_cancel_left k (by omega)]
    refine ⟨⟨fun z => by rw [z], fun z => Int.eq_of_mul_eq_mul_left (by omega) z⟩, ⟨fun z => Int.mul_lt_mul_of_pos_left z (by omega), fun z => Int.lt_of_mul_lt_mul_left z (by omega)⟩, ?_⟩
    rcases Int.lt_or_le m 0 with y | y
    · have := Int.mul_lt_mul_of_pos_left y (show 0 < p by omega)
      omega
    · exact y
  rcases h with ⟨h1, h2, h3⟩ | ⟨h1, h2, h3, h4, h5⟩ <;> rcases k with ⟨k1, k2, k3⟩ | ⟨k1, k2, k3, k4, k5⟩ <;> dsimp only at *
  · rw [if_pos h1, if_pos k1, if_pos h1, if_pos k1, if_pos h1, if_pos k1]
    refine ⟨⟨fun z => by rw [z, h1, k1], fun z => (Prod.mk.inj z).1⟩, by omega⟩
  · rw [if_pos h1, if_neg k5, if_pos h1, if_neg k5, if_pos h1, if_neg k5]
    obtain ⟨_, _, m⟩ := mono k4 k4 k2 k2
    refine ⟨⟨fun z => by omega, fun z => absurd ((Prod.mk.inj z).2.symm.trans h1) k5⟩, by omega⟩
  · rw [if_neg h5, if_pos k1, if_neg h5, if_pos k1, if_neg h5, if_pos k1]
    obtain ⟨_, _, m⟩ := mono h4 h4 h2 h2
    refine ⟨⟨fun z => by omega, fun z => absurd ((Prod.mk.inj z).2.trans k1) h5⟩, by omega⟩
  · rw [if_neg h5, if_neg k5, if_neg h5, if_neg k5, if_neg h5, if_neg k5]
    obtain ⟨m1, m2, _⟩ := mono h4 k4 h2 k2
    refine ⟨⟨fun z => ?_, fun z => by rw [(Prod.mk.inj z).2]⟩, by omega⟩
    have : b = b' := m1.mp (by omega)
    rw [h1, k1, this]
theorem key_place : ∀ {ps cs ds : List (Int × Int)}, (∀ q ∈ ps, 2 ≤ q.1) → ItR ps cs → ItR ps ds → HT.lexLt (ckL cs) (ckL ds) = HT.lexLt (plL ps cs) (plL ps ds)
  | [], cs, ds, _, h, k => by
    rw [List.length_eq_zero_iff.mp h.1, List.length_eq_zero_iff.mp k.1]; rfl
  | q :: ps, [], ds, _, h, _ => by have := h.1; simp at this
  | q :: ps, c :: cs, [], _, _, k => by have := k.1; simp at this
  | q :: ps, c :: cs, d :: ds, hp, h, k => by
    obtain ⟨h1, h2⟩ := h.cons
    obtain ⟨k1, k2⟩ := k.cons
    have ih := key_place (fun q' h' => hp q' (List.mem_cons_of_mem _ h')) h2 k2
    obtain ⟨m1, m2⟩ := plc_lt (hp q List.mem_cons_self) h1 k1
    have f : ∀ c : Int × Int, (if c.2 = 1 then [0, c.1] else [1, c.2] : List Int) = [if c.2 = 1 then 0 else 1, if c.2 = 1 then c.1 else c.2] := fun c => by split <;> rfl
    unfold ckL at ih ⊢
    unfold plL at ih ⊢
    rw [List.flatMap_cons, List.flatMap_cons, f, f, List.zipWith_cons_cons, List.zipWith_cons_cons]
    simp only [List.cons_append, List.nil_append]
    rw [HT.lexLt_cons, HT.lexLt_cons, HT.lexLt_cons, ih]
    by_cases z : plc q c = plc q d
    · rw [if_pos z]
      have e := m1.mp z
      subst e
      rw [if_pos rfl, if_pos rfl]
    · rw [if_neg z]
      have ne : ¬ c = d := fun y => z (m1.mpr y)
      by_cases a : (if c.2 = 1 then (0 : Int) else 1) = if d.2 = 1 then 0 else 1
      · rw [if_pos a]
        by_cases b : (if c.2 = 1 then c.1 else c.2) = if d.2 = 1 then d.1 else d.2
        · exfalso
          apply ne
          rcases h1 with ⟨x1, _⟩ | ⟨x1, _, _, _, x5⟩ <;> rcases k1 with ⟨y1, _⟩ | ⟨y1, _, _, _, y5⟩
          · rw [if_pos x1, if_pos y1] at b; exact Prod.ext b (x1.trans y1.symm)
          · rw [if_pos x1, if_neg y5] at a; omega
          · rw [if_neg x5, if_pos y1] at a; omega
          · rw [if_neg x5, if_neg y5] at b; exact Prod.ext (x1.trans y1.symm) b
        · rw [if_neg b, decide_eq_decide, m2]
          omega
      · rw [if_neg a, decide_eq_decide, m2]
        omega
/-! ### an item at a drawn place -/
theorem ro_pickL {E : En} {μ : Mu} {Ψ : W → Mu → Prop} {ds : List D} {r : Int} (P : D → Prop) (h0 : 0 ≤ r) (h1 : r < ((ds.length : Nat) : Int)) (h : AllOf P ds) (k : ∀ d, P d → Ψ (.dat d) μ) : RO E (rIx E.K) (.dat (.lst ds)) (.i r) μ Ψ := by
  obtain ⟨d, hd, hp⟩ := pickP (P := P) h0 h1 (AllOf.mem h)
  exact ro_v (vo_ixL hd) (k d hp)
theorem ro_pickT {E : En} {μ : Mu} {Ψ : W → Mu → Prop} {ds : List D} {r : Int} (P : D → Prop) (h0 : 0 ≤ r) (h1 : r < ((ds.length : Nat) : Int)) (h : AllOf P ds) (k : ∀ d, P d → Ψ (.dat d) μ) : RO E (rIx E.K) (.dat (.tup ds)) (.i r) μ Ψ := by
  obtain ⟨d, hd, hp⟩ := pickP (P := P) h0 h1 (AllOf.mem h)
  exact ro_v (vo_ixT hd) (k d hp)
theorem cut_last (ds : List D) : Sn.cutD ds none (some (-1)) = ds.take (ds.length - 1) := by
  unfold Sn.cutD HT.sIx
  simp
  congr 1
  omega
theorem pf_len {n : Int} (h1 : 1 ≤ n) (h2 : n ≤ 900) : (pf n).length ≤ 9 := by
  have ok := pf_ok h1 h2
  have go : ∀ (ps : List (Int × Int)) (r : Int), 1 ≤ r → (∀ q ∈ ps, OkP q.1 ∧ 1 ≤ q.2 ∧ q.2 ≤ 12 ∧ q.1 ^ q.2.toNat ∣ n) → r * 2 ^ ps.length ≤ prodF r ps := fun ps => by
    induction ps with
    | nil => intro r h _; show r * 1 ≤ r; omega
    | cons q ps ih =>
      intro r hr hq
      obtain ⟨hp, he, _, _⟩ := hq q List.mem_cons_self
      have h3 : q.1 ∣ q.1 ^ q.2.toNat := pow_dvd1 q.1 (by omega)
      have h4 := Int.le_of_dvd (Int.pow_pos (by have := hp.2.1; omega)) h3
      have h5 : 2 ≤ q.1 ^ q.2.toNat := by have := hp.2.1; omega
      have h6 := Int.mul_le_mul_of_nonneg_left h5 (show 0 ≤ r by omega)
      have h7 := ih (r * q.1 ^ q.2.toNat) (by omega) fun q' h' => hq q' (List.mem_cons_of_mem _ h')
      have h8 : r * 2 * 2 ^ ps.length ≤ r * q.1 ^ q.2.toNat * 2 ^ ps.length := Int.mul_le_mul_of_nonneg_right h6 (by have : (0 : Int) < 2 ^ ps.length := Int.pow_pos (by decide); omega)
      show r * 2 ^ (ps.length + 1) ≤ prodF (r * q.1 ^ q.2.toNat) ps
      rw [Int.pow_succ, Int.mul_comm (2 ^ ps.length) 2, ← Int.mul_assoc]
      exact Int.le_trans h8 h7
  have h3 := go (pf n) 1 (by decide) ok.m
  rw [← ok.p, Int.one_mul] at h3
  rcases Nat.lt_or_ge 9 (pf n).length with z | z
  · have h4 : (2 : Int) ^ 10 ≤ 2 ^ (pf n).length := by
      have := Nat.pow_le_pow_right (show 0 < 2 by decide) (show 10 ≤ (pf n).length from z)
      have h5 : ((2 ^ 10 : Nat) : Int) ≤ ((2 ^ (pf n).length : Nat) : Int) := by omega
      simpa using h5
    have h6 : (2 : Int) ^ 10 = 1024 := by decide
    omega
  · exact z
/-- the parts as frozen data -/
def lpD (n : Int) : D := .tup [.lst ((ppF n).1.map prD), .int (ppF n).2]
theorem lpD_eq {n : Int} (h1 : 1 ≤ n) (h2 : n ≤ 900) : lpD n = .tup [.lst ((pf n).map prD), .int 1] := by unfold lpD; rw [pf_rest h1 h2]
def itemB (a b p P : Int) : Bool := if b = 1 then decide (0 ≤ a) && decide (a < P) else decide (a = 1) && (decide (0 ≤ b) && decide (b < P) && decide (b % p = 0))
def clsB (n : Int) (cs : List (Int × Int)) : Bool := decide (cs.length = (pf n).length) && (((pf n).zip cs).map fun q => itemB q.2.1 q.2.2 q.1.1 (q.1.1 ^ q.1.2.toNat)).all id
end Sn

namespace Lw
open PySem PySem.Spec PyProof.Rows Sn
open L2 hiding prD
/-! ### the text by places -/
def top (i : Nat) : Stmt := PySem.Challenge.pw_soontoogreat_k06_classes_modulo_numbers.main.body.getD i (.Pass ⟨0, 0, 0, 0⟩)
abbrev s_greatest_divisor : Stmt := top 9
abbrev s_raised : Stmt := top 10
abbrev s_split_off : Stmt := top 11
abbrev s_valuation : Stmt := top 12
abbrev s_prime_parts : Stmt := top 13
abbrev s_inverse_modulo : Stmt := top 14
abbrev s_combine : Stmt := top 15
abbrev s_lowest : Stmt := top 17
abbrev s_check_modulus : Stmt := top 22
abbrev s_class_at : Stmt := top 23
abbrev s_all_classes : Stmt := top 24
abbrev s_class_above : Stmt := top 25
abbrev s_class_modulo : Stmt := top 26
abbrev s_class_total : Stmt := top 27
abbrev s_classes_modulo : Stmt := top 28
abbrev s_class_key : Stmt := top 29
abbrev s_coarsened : Stmt := top 30
abbrev s_is_item : Stmt := top 31
abbrev s_is_class : Stmt := top 32
abbrev s_fraction_in : Stmt := top 33
abbrev s__law_store : Stmt := top 35
abbrev s__law_mixed : Stmt := top 36
abbrev s__law_blend : Stmt := top 37
abbrev s__law_take : Stmt := top 38
abbrev s__law_pick : Stmt := top 39
abbrev s__law_power : Stmt := top 40
abbrev s__law_divisor : Stmt := top 41
abbrev s__law_lowest : Stmt := top 42
abbrev s__law_parts : Stmt := top 43
abbrev s__law_class_list : Stmt := top 44
abbrev s__law_classes_modulo : Stmt := top 45
abbrev s__law_some_class : Stmt := top 46
abbrev s__law_bad_class : Stmt := top 47
abbrev s__law_same : Stmt := top 48
abbrev s__law_plain_keys : Stmt := top 49
abbrev s__law_is_whole : Stmt := top 50
abbrev s__law_is_row : Stmt := top 51
abbrev s__law_call : Stmt := top 52
abbrev s__law_refuses : Stmt := top 53
abbrev s__law_places_of : Stmt := top 54
abbrev s__law_meets : Stmt := top 55
abbrev s__law_any : Stmt := top 56
abbrev s__law_modulus_of : Stmt := top 57
abbrev s__law_fractions_right : Stmt := top 58
abbrev s__law_classes_right : Stmt := top 59
abbrev s__law_list_right : Stmt := top 60
abbrev s_law : Stmt := top 61
abbrev s_OutOfRange_init : Stmt := inClass (top 5) 0
/-! ### the facts of the top -/
def d_greatest_divisor : He.DefD := ⟨("greatest_divisor", none), "greatest_divisor", "greatest_divisor", defArgs s_greatest_divisor, defBody s_greatest_divisor, defScope s_greatest_divisor, [], []⟩
def d_raised : He.DefD := ⟨("raised", none), "raised", "raised", defArgs s_raised, defBody s_raised, defScope s_raised, [], []⟩
def d_split_off : He.DefD := ⟨("split_off", none), "split_off", "split_off", defArgs s_split_off, defBody s_split_off, defScope s_split_off, [], []⟩
def d_valuation : He.DefD := ⟨("valuation", none), "valuation", "valuation", defArgs s_valuation, defBody s_valuation, defScope s_valuation, [], []⟩
def d_prime_parts : He.DefD := ⟨("prime_parts", none), "prime_parts", "prime_parts", defArgs s_prime_parts, defBody s_prime_parts, defScope s_prime_parts, [], []⟩
def d_inverse_modulo : He.DefD := ⟨("inverse_modulo", none), "inverse_modulo", "inverse_modulo", defArgs s_inverse_modulo, defBody s_inverse_modulo, defScope s_inverse_modulo, [], []⟩
def d_combine : He.DefD := ⟨("combine", none), "combine", "combine", defArgs s_combine, defBody s_combine, defScope s_combine, [], []⟩
def d_lowest : He.DefD := ⟨("lowest", none), "lowest", "lowest", defArgs s_lowest, defBody s_lowest, defScope s_lowest, [], []⟩
def d_check_modulus : He.DefD := ⟨("check_modulus", none), "check_modulus", "check_modulus", defArgs s_check_modulus, defBody s_check_modulus, defScope s_check_modulus, [], []⟩
def d_class_at : He.DefD := ⟨("class_at", none), "class_at", "class_at", defArgs s_class_at, defBody s_class_at, defScope s_class_at, [], []⟩
def d_all_classes : He.DefD := ⟨("all_classes", none), "all_classes", "all_classes", defArgs s_all_classes, defBody s_all_classes, defScope s_all_classes, [], []⟩
def d_class_above : He.DefD := ⟨("class_above", none), "class_above", "class_above", defArgs s_class_above, defBody s_class_above, defScope s_class_above, [], []⟩
def d_class_modulo : He.DefD := ⟨("class_modulo", none), "class_modulo", "class_modulo", defArgs s_class_modulo, defBody s_class_modulo, defScope s_class_modulo, [], []⟩
def d_class_total : He.DefD := ⟨("class_total", none), "class_total", "class_total", defArgs s_class_total, defBody s_class_total, defScope s_class_total, [], []⟩
def d_classes_modulo : He.DefD := ⟨("classes_modulo", none), "classes_modulo", "classes_modulo", defArgs s_classes_modulo, defBody s_classes_modulo, defScope s_classes_modulo, [], []⟩
def d_class_key : He.DefD := ⟨("class_key", none), "class_key", "class_key", defArgs s_class_key, defBody s_class_key, defScope s_class_key, [], []⟩
def d_coarsened : He.DefD := ⟨("coarsened", none), "coarsened", "coarsened", defArgs s_coarsened, defBody s_coarsened, defScope s_coarsened, [], []⟩
def d_is_item : He.DefD := ⟨("is_item", none), "is_item", "is_item", defArgs s_is_item, defBody s_is_item, defScope s_is_item, [], []⟩
def d_is_class : He.DefD := ⟨("is_class", none), "is_class", "is_class", defArgs s_is_class, defBody s_is_class, defScope s_is_class, [], []⟩
def d_fraction_in : He.DefD := ⟨("fraction_in", none), "fraction_in", "fraction_in", defArgs s_fraction_in, defBody s_fraction_in, defScope s_fraction_in, [], []⟩
def d__law_store : He.DefD := ⟨("_law_store", none), "_law_store", "_law_store", defArgs s__law_store, defBody s__law_store, defScope s__law_store, [], []⟩
def d__law_mixed : He.DefD := ⟨("_law_mixed", none), "_law_mixed", "_law_mixed", defArgs s__law_mixed, defBody s__law_mixed, defScope s__law_mixed, [], []⟩
def d__law_blend : He.DefD := ⟨("_law_blend", none), "_law_blend", "_law_blend", defArgs s__law_blend, defBody s__law_blend, defScope s__law_blend, [], []⟩
def d__law_take : He.DefD := ⟨("_law_take", none), "_law_take", "_law_take", defArgs s__law_take, defBody s__law_take, defScope s__law_take, [], []⟩
def d__law_pick : He.DefD := ⟨("_law_pick", none), "_law_pick", "_law_pick", defArgs s__law_pick, defBody s__law_pick, defScope s__law_pick, [], []⟩
def d__law_power : He.DefD := ⟨("_law_power", none), "_law_power", "_law_power", defArgs s__law_power, defBody s__law_power, defScope s__law_power, [], []⟩
def d__law_divisor : He.DefD := ⟨("_law_divisor", none), "_law_divisor", "_law_divisor", defArgs s__law_divisor, defBody s__law_divisor, defScope s__law_divisor, [], []⟩
def d__law_lowest : He.DefD := ⟨("_law_lowest", none), "_law_lowest", "_law_lowest", defArgs s__law_lowest, defBody s__law_lowest, defScope s__law_lowest, [], []⟩
def d__law_parts : He.DefD := ⟨("_law_parts", none), "_law_parts", "_law_parts", defArgs s__law_parts, defBody s__law_parts, defScope s__law_parts, [], []⟩
def d__law_class_list : He.DefD := ⟨("_law_class_list", none), "_law_class_list", "_law_class_list", defArgs s__law_class_list, defBody s__law_class_list, defScope s__law_class_list, [], []⟩
def d__law_classes_modulo : He.DefD := ⟨("_law_classes_modulo", none), "_law_classes_modulo", "_law_classes_modulo", defArgs s__law_classes_modulo, defBody s__law_classes_modulo, defScope s__law_classes_modulo, [], []⟩
def d__law_some_class : He.DefD := ⟨("_law_some_class", none), "_law_some_class", "_law_some_class", defArgs s__law_some_class, defBody s__law_some_class, defScope s__law_some_class, [], []⟩
def d__law_bad_class : He.DefD := ⟨("_law_bad_class", none), "_law_bad_class", "_law_bad_class", defArgs s__law_bad_class, defBody s__law_bad_class, defScope s__law_bad_class, [], []⟩
def d__law_same : He.DefD := ⟨("_law_same", none), "_law_same", "_law_same", defArgs s__law_same, defBody s__law_same, defScope s__law_same, [], []⟩
def d__law_plain_keys : He.DefD := ⟨("_law_plain_keys", none), "_law_plain_keys", "_law_plain_keys", defArgs s__law_plain_keys, defBody s__law_plain_keys, defScope s__law_plain_keys, [], []⟩
def d__law_is_whole : He.DefD := ⟨("_law_is_whole", none), "_law_is_whole", "_law_is_whole", defArgs s__law_is_whole, defBody s__law_is_whole, defScope s__law_is_whole, [], []⟩
def d__law_is_row : He.DefD := ⟨("_law_is_row", none), "_law_is_row", "_law_is_row", defArgs s__law_is_row, defBody s__law_is_row, defScope s__law_is_row, [], []⟩
def d__law_call : He.DefD := ⟨("_law_call", none), "_law_call", "_law_call", defArgs s__law_call, defBody s__law_call, defScope s__law_call, [], []⟩
def d__law_refuses : He.DefD := ⟨("_law_refuses", none), "_law_refuses", "_law_refuses", defArgs s__law_refuses, defBody s__law_refuses, defScope s__law_refuses, [], []⟩
def d__law_places_of : He.DefD := ⟨("_law_places_of", none), "_law_places_of", "_law_places_of", defArgs s__law_places_of, defBody s__law_places_of, defScope s__law_places_of, [], []⟩
def d__law_meets : He.DefD := ⟨("_law_meets", none), "_law_meets", "_law_meets", defArgs s__law_meets, defBody s__law_meets, defScope s__law_meets, [], []⟩
def d__law_any : He.DefD := ⟨("_law_any", none), "_law_any", "_law_any", defArgs s__law_any, defBody s__law_any, defScope s__law_any, [], []⟩
def d__law_modulus_of : He.DefD := ⟨("_law_modulus_of", none), "_law_modulus_of", "_law_modulus_of", defArgs s__law_modulus_of, defBody s__law_modulus_of, defScope s__law_modulus_of, [], []⟩
def d__law_fractions_right : He.DefD := ⟨("_law_fractions_right", none), "_law_fractions_right", "_law_fractions_right", defArgs s__law_fractions_right, defBody s__law_fractions_right, defScope s__law_fractions_right, [], []⟩
def d__law_classes_right : He.DefD := ⟨("_law_classes_right", none), "_law_classes_right", "_law_classes_right", defArgs s__law_classes_right, defBody s__law_classes_right, defScope s__law_classes_right, [], []⟩
def d__law_list_right : He.DefD := ⟨("_law_list_right", none), "_law_list_right", "_law_list_right", defArgs s__law_list_right, defBody s__law_list_right, defScope s__law_list_right, [], []⟩
def d_law : He.DefD := ⟨("law", none), "law", "law", defArgs s_law, defBody s_law, defScope s_law, [], []⟩
def d_OutOfRange_init : He.DefD := ⟨("OutOfRange", some "__init__"), "__init__", "OutOfRange.__init__", defArgs s_OutOfRange_init, defBody s_OutOfRange_init, defScope s_OutOfRange_init, [], []⟩
def fa_0 : List He.Fa := [.glo "greatest_divisor", .glo "raised", .glo "split_off", .glo "valuation", .glo "prime_parts", .glo "inverse_modulo", .glo "combine", .glo "lowest", .glo "check_modulus", .glo "class_at", .glo "all_classes", .glo "class_above", .glo "class_modulo", .glo "class_total", .glo "classes_modulo", .glo "class_key", .glo "coarsened", .glo "is_item", .glo "is_class", .glo "fraction_in", .glo "_law_store", .glo "_law_mixed", .glo "_law_blend", .glo "_law_take", .glo "_law_pick", .glo "_law_power", .glo "_law_divisor", .glo "_law_lowest", .glo "_law_parts", .glo "_law_class_list"]
def fa_1 : List He.Fa := [.glo "_law_classes_modulo", .glo "_law_some_class", .glo "_law_bad_class", .glo "_law_same", .glo "_law_plain_keys", .glo "_law_is_whole", .glo "_law_is_row", .glo "_law_call", .glo "_law_refuses", .glo "_law_places_of", .glo "_law_meets", .glo "_law_any", .glo "_law_modulus_of", .glo "_law_fractions_right", .glo "_law_classes_right", .glo "_law_list_right", .glo "law", .glo "TooGreatError", .glo "NoFraction", .glo "BadForm", .glo "TooFine", .glo "OutOfRange", .int "LAST_PRIME" 997, .int "GREATEST_EXPONENT" 1000, .int "GREATEST_MODULUS" 900, .int "GREATEST_WHOLE_LIST" 60, .glo "ALL_FRACTIONS", .free "abs", .free "all", .free "bool"]
def fa_2 : List He.Fa := [.free "dict", .free "int", .free "isinstance", .free "len", .free "list", .free "range", .free "str", .free "tuple", .free "zip", .free "ValueError", .exc "TooGreatError", .exc "NoFraction", .exc "BadForm", .exc "TooFine"]
def fa : List He.Fa := fa_0 ++ fa_1 ++ fa_2
def fn_0 : List He.DefD := [d_greatest_divisor, d_raised, d_split_off, d_valuation, d_prime_parts, d_inverse_modulo, d_combine, d_lowest, d_check_modulus, d_class_at, d_all_classes, d_class_above, d_class_modulo, d_class_total, d_classes_modulo, d_class_key, d_coarsened, d_is_item, d_is_class, d_fraction_in, d__law_store, d__law_mixed, d__law_blend, d__law_take, d__law_pick, d__law_power, d__law_divisor, d__law_lowest, d__law_parts, d__law_class_list]
def fn_1 : List He.DefD := [d__law_classes_modulo, d__law_some_class, d__law_bad_class, d__law_same, d__law_plain_keys, d__law_is_whole, d__law_is_row, d__law_call, d__law_refuses, d__law_places_of, d__law_meets, d__law_any, d__law_modulus_of, d__law_fractions_right, d__law_classes_right, d__law_list_right, d_law, d_OutOfRange_init]
def fn : List He.DefD := fn_0 ++ fn_1
def ex_0 (K : PySem.W.Frag) : Bool := excCB K (He.ga K "TooGreatError") && (excCB K (He.ga K "NoFraction") && (excCB K (He.ga K "BadForm") && (excCB K (He.ga K "TooFine") && (excCB K (He.ga K "OutOfRange") && (oexB K (He.ga K "OutOfRange") && (decide (PySem.W.findIn K (.ref (He.ga K "OutOfRange")) "name" = some none) && (decide (PySem.W.findIn K (.ref (He.ga K "OutOfRange")) "__init__" = some (some (.ref (He.fAd K ("OutOfRange", some "__init__"))))) && (decide (PySem.W.typeIn K (.ref (He.fAd K ("OutOfRange", some "__init__"))) = some (.type "function")) && (decide (PySem.W.exmOne K (.ref (He.ga K "TooGreatError")) (.ref (He.ga K "TooGreatError")) = some true) && (decide (PySem.W.kitOne K (.ref (He.ga K "TooGreatError")) (.ref (He.ga K "TooGreatError")) = some true) && (decide (PySem.W.exmOne K (.ref (He.ga K "TooGreatError")) (.ref (He.ga K "NoFraction")) = some false) && (decide (PySem.W.kitOne K (.ref (He.ga K "TooGreatError")) (.ref (He.ga K "NoFraction")) = some false) && (decide (PySem.W.exmOne K (.ref (He.ga K "TooGreatError")) (.ref (He.ga K "BadForm")) = some false) && (decide (PySem.W.kitOne K (.ref (He.ga K "TooGreatError")) (.ref (He.ga K "BadForm")) = some false) && (decide (PySem.W.exmOne K (.ref (He.ga K "TooGreatError")) (.ref (He.ga K "TooFine")) = some false) && (decide (PySem.W.kitOne K (.ref (He.ga K "TooGreatError")) (.ref (He.ga K "TooFine")) = some false) && (decide (PySem.W.exmOne K (.ref (He.ga K "TooGreatError")) (.ref (He.ga K "OutOfRange")) = some false) && (decide (PySem.W.kitOne K (.ref (He.ga K "TooGreatError")) (.ref (He.ga K "OutOfRange")) = some false) && (decide (PySem.W.kitOne K (.ref (He.ga K "TooGreatError")) (.type "ValueError") = some true) && (decide (PySem.W.exmOne K (.ref (He.ga K "NoFraction")) (.ref (He.ga K "TooGreatError")) = some true) && (decide (PySem.W.kitOne K (.ref (He.ga K "NoFraction")) (.ref (He.ga K "TooGreatError")) = some true) && (decide (PySem.W.exmOne K (.ref (He.ga K "NoFraction")) (.ref (He.ga K "NoFraction")) = some true) && (decide (PySem.W.kitOne K (.ref (He.ga K "NoFraction")) (.ref (He.ga K "NoFraction")) = some true) && (decide (PySem.W.exmOne K (.ref (He.ga K "NoFraction")) (.ref (He.ga K "BadForm")) = some false) && (decide (PySem.W.kitOne K (.ref (He.ga K "NoFraction")) (.ref (He.ga K "BadForm")) = some false) && (decide (PySem.W.exmOne K (.ref (He.ga K "NoFraction")) (.ref (He.ga K "TooFine")) = some false) && (decide (PySem.W.kitOne K (.ref (He.ga K "NoFraction")) (.ref (He.ga K "TooFine")) = some false) && (decide (PySem.W.exmOne K (.ref (He.ga K "NoFraction")) (.ref (He.ga K "OutOfRange")) = some false) && (decide (PySem.W.kitOne K (.ref (He.ga K "NoFraction")) (.ref (He.ga K "OutOfRange")) = some false) && (decide (PySem.W.kitOne K (.ref (He.ga K "NoFraction")) (.type "ValueError") = some true) && (decide (He.ga K "NoFraction" ≠ He.ga K "TooGreatError") && (decide (He.ga K "NoFraction" ≠ He.ga K "TooFine") && (decide (He.ga K "NoFraction" ≠ He.ga K "OutOfRange") && (decide (PySem.W.exmOne K (.ref (He.ga K "BadForm")) (.ref (He.ga K "TooGreatError")) = some true) && (decide (PySem.W.kitOne K (.ref (He.ga K "BadForm")) (.ref (He.ga K "TooGreatError")) = some true) && (decide (PySem.W.exmOne K (.ref (He.ga K "BadForm")) (.ref (He.ga K "NoFraction")) = some false) && (decide (PySem.W.kitOne K (.ref (He.ga K "BadForm")) (.ref (He.ga K "NoFraction")) = some false) && (decide (PySem.W.exmOne K (.ref (He.ga K "BadForm")) (.ref (He.ga K "BadForm")) = some true) && (decide (PySem.W.kitOne K (.ref (He.ga K "BadForm")) (.ref (He.ga K "BadForm")) = some true))))))))))))))))))))))))))))))))))))))))
def ex_1 (K : PySem.W.Frag) : Bool := decide (PySem.W.exmOne K (.ref (He.ga K "BadForm")) (.ref (He.ga K "TooFine")) = some false) && (decide (PySem.W.kitOne K (.ref (He.ga K "BadForm")) (.ref (He.ga K "TooFine")) = some false) && (decide (PySem.W.exmOne K (.ref (He.ga K "BadForm")) (.ref (He.ga K "OutOfRange")) = some false) && (decide (PySem.W.kitOne K (.ref (He.ga K "BadForm")) (.ref (He.ga K "OutOfRange")) = some false) && (decide (PySem.W.kitOne K (.ref (He.ga K "BadForm")) (.type "ValueError") = some true) && (decide (He.ga K "BadForm" ≠ He.ga K "TooGreatError") && (decide (He.ga K "BadForm" ≠ He.ga K "NoFraction") && (decide (He.ga K "BadForm" ≠ He.ga K "TooFine") && (decide (He.ga K "BadForm" ≠ He.ga K "OutOfRange") && (decide (PySem.W.exmOne K (.ref (He.ga K "TooFine")) (.ref (He.ga K "TooGreatError")) = some true) && (decide (PySem.W.kitOne K (.ref (He.ga K "TooFine")) (.ref (He.ga K "TooGreatError")) = some true) && (decide (PySem.W.exmOne K (.ref (He.ga K "TooFine")) (.ref (He.ga K "NoFraction")) = some false) && (decide (PySem.W.kitOne K (.ref (He.ga K "TooFine")) (.ref (He.ga K "NoFraction")) = some false) && (decide (PySem.W.exmOne K (.ref (He.ga K "TooFine")) (.ref (He.ga K "BadForm")) = some false) && (decide (PySem.W.kitOne K (.ref (He.ga K "TooFine")) (.ref (He.ga K "BadForm")) = some false) && (decide (PySem.W.exmOne K (.ref (He.ga K "TooFine")) (.ref (He.ga K "TooFine")) = some true) && (decide (PySem.W.kitOne K (.ref (He.ga K "TooFine")) (.ref (He.ga K "TooFine")) = some true) && (decide (PySem.W.exmOne K (.ref (He.ga K "TooFine")) (.ref (He.ga K "OutOfRange")) = some false) && (decide (PySem.W.kitOne K (.ref (He.ga K "TooFine")) (.ref (He.ga K "OutOfRange")) = some false) && (decide (PySem.W.kitOne K (.ref (He.ga K "TooFine")) (.type "ValueError") = some true) && (decide (He.ga K "TooFine" ≠ He.ga K "TooGreatError") && (decide (PySem.W.exmOne K (.ref (He.ga K "OutOfRange")) (.ref (He.ga K "TooGreatError")) = some true) && (decide (PySem.W.kitOne K (.ref (He.ga K "OutOfRange")) (.ref (He.ga K "TooGreatError")) = some true) && (decide (PySem.W.exmOne K (.ref (He.ga K "OutOfRange")) (.ref (He.ga K "NoFraction")) = some false) && (decide (PySem.W.kitOne K (.ref (He.ga K "OutOfRange")) (.ref (He.ga K "NoFraction")) = some false) && (decide (PySem.W.exmOne K (.ref (He.ga K "OutOfRange")) (.ref (He.ga K "BadForm")) = some false) && (decide (PySem.W.kitOne K (.ref (He.ga K "OutOfRange")) (.ref (He.ga K "BadForm")) = some false) && (decide (PySem.W.exmOne K (.ref (He.ga K "OutOfRange")) (.ref (He.ga K "TooFine")) = some false) && (decide (PySem.W.kitOne K (.ref (He.ga K "OutOfRange")) (.ref (He.ga K "TooFine")) = some false) && (decide (PySem.W.exmOne K (.ref (He.ga K "OutOfRange")) (.ref (He.ga K "OutOfRange")) = some true) && (decide (PySem.W.kitOne K (.ref (He.ga K "OutOfRange")) (.ref (He.ga K "OutOfRange")) = some true) && (decide (PySem.W.kitOne K (.ref (He.ga K "OutOfRange")) (.type "ValueError") = some true) && (decide (He.ga K "OutOfRange" ≠ He.ga K "TooGreatError") && (decide (He.ga K "OutOfRange" ≠ He.ga K "TooFine") && (He.tupB K "ALL_FRACTIONS" [.int 0, .int 0]))))))))))))))))))))))))))))))))))
def exs (K : PySem.W.Frag) : Bool := ex_0 K && (ex_1 K)
/-- what the top has left, over any base -/
structure Base (P : Program) (w : World) (K : PySem.W.Frag) (mg : Str → Option Value) (base : Heap) : Prop where
  KX : K.In base
  G : base.Ns mainGlobals mg
  ex : exs K = true
  c : He.SaysD fa fn K
section
variable {P : Program} {w : World} {K : PySem.W.Frag} {mg : Str → Option Value} {base : Heap}
theorem gl_greatest_divisor (B : Base P w K mg base) : mg "greatest_divisor" = some (.ref (He.ga K "greatest_divisor")) := He.glo_ok B.KX B.G (B.c.fact 0 (f := .glo "greatest_divisor") rfl)
theorem gl_raised (B : Base P w K mg base) : mg "raised" = some (.ref (He.ga K "raised")) := He.glo_ok B.KX B.G (B.c.fact 1 (f := .glo "raised") rfl)
theorem gl_split_off (B : Base P w K mg base) : mg "split_off" = some (.ref (He.ga K "split_off")) := He.glo_ok B.KX B.G (B.c.fact 2 (f := .glo "split_off") rfl)
theorem gl_valuation (B : Base P w K mg base) : mg "valuation" = some (.ref (He.ga K "valuation")) := He.glo_ok B.KX B.G (B.c.fact 3 (f := .glo "valuation") rfl)
theorem gl_prime_parts (B : Base P w K mg base) : mg "prime_parts" = some (.ref (He.ga K "prime_parts")) := He.glo_ok B.KX B.G (B.c.fact 4 (f := .glo "prime_parts") rfl)
theorem gl_inverse_modulo (B : Base P w K mg base) : mg "inverse_modulo" = some (.ref (He.ga K "inverse_modulo")) := He.glo_ok B.KX B.G (B.c.fact 5 (f := .glo "inverse_modulo") rfl)
theorem gl_combine (B : Base P w K mg base) : mg "combine" = some (.ref (He.ga K "combine")) := He.glo_ok B.KX B.G (B.c.fact 6 (f := .glo "combine") rfl)
theorem gl_lowest (B : Base P w K mg base) : mg "lowest" = some (.ref (He.ga K "lowest")) := He.glo_ok B.KX B.G (B.c.fact 7 (f := .glo "lowest") rfl)
theorem gl_check_modulus (B : Base P w K mg base) : mg "check_modulus" = some (.ref (He.ga K "check_modulus")) := He.glo_ok B.KX B.G (B.c.fact 8 (f := .glo "check_modulus") rfl)
theorem gl_class_at (B : Base P w K mg base) : mg "class_at" = some (.ref (He.ga K "class_at")) := He.glo_ok B.KX B.G (B.c.fact 9 (f := .glo "class_at") rfl)
theorem gl_all_classes (B : Base P w K mg base) : mg "all_classes" = some (.ref (He.ga K "all_classes")) := He.glo_ok B.KX B.G (B.c.fact 10 (f := .glo "all_classes") rfl)
theorem gl_class_above (B : Base P w K mg base) : mg "class_above" = some (.ref (He.ga K "class_above")) := He.glo_ok B.KX B.G (B.c.fact 11 (f := .glo "class_above") rfl)
theorem gl_class_modulo (B : Base P w K mg base) : mg "class_modulo" = some (.ref (He.ga K "class_modulo")) := He.glo_ok B.KX B.G (B.c.fact 12 (f := .glo "class_modulo") rfl)
theorem gl_class_total (B : Base P w K mg base) : mg "class_total" = some (.ref (He.ga K "class_total")) := He.glo_ok B.KX B.G (B.c.fact 13 (f := .glo "class_total") rfl)
theorem gl_classes_modulo (B : Base P w K mg base) : mg "classes_modulo" = some (.ref (He.ga K "classes_modulo")) := He.glo_ok B.KX B.G (B.c.fact 14 (f := .glo "classes_modulo") rfl)
theorem gl_class_key (B : Base P w K mg base) : mg "class_key" = some (.ref (He.ga K "class_key")) := He.glo_ok B.KX B.G (B.c.fact 15 (f := .glo "class_key") rfl)
theorem gl_coarsened (B : Base P w K mg base) : mg "coarsened" = some (.ref (He.ga K "coarsened")) := He.glo_ok B.KX B.G (B.c.fact 16 (f := .glo "coarsened") rfl)
theorem gl_is_item (B : Base P w K mg base) : mg "is_item" = some (.ref (He.ga K "is_item")) := He.glo_ok B.KX B.G (B.c.fact 17 (f := .glo "is_item") rfl)
theorem gl_is_class (B : Base P w K mg base) : mg "is_class" = some (.ref (He.ga K "is_class")) := He.glo_ok B.KX B.G (B.c.fact 18 (f := .glo "is_class") rfl)
theorem gl_fraction_in (B : Base P w K mg base) : mg "fraction_in" = some (.ref (He.ga K "fraction_in")) := He.glo_ok B.KX B.G (B.c.fact 19 (f := .glo "fraction_in") rfl)
theorem gl__law_store (B : Base P w K mg base) : mg "_law_store" = some (.ref (He.ga K "_law_store")) := He.glo_ok B.KX B.G (B.c.fact 20 (f := .glo "_law_store") rfl)
theorem gl__law_mixed (B : Base P w K mg base) : mg "_law_mixed" = some (.ref (He.ga K "_law_mixed")) := He.glo_ok B.KX B.G (B.c.fact 21 (f := .glo "_law_mixed") rfl)
theorem gl__law_blend (B : Base P w K mg base) : mg "_law_blend" = some (.ref (He.ga K "_law_blend")) := He.glo_ok B.KX B.G (B.c.fact 22 (f := .glo "_law_blend") rfl)
theorem gl__law_take (B : Base P w K mg base) : mg "_law_take" = some (.ref (He.ga K "_law_take")) := He.glo_ok B.KX B.G (B.c.fact 23 (f := .glo "_law_take") rfl)
theorem gl__law_pick (B : Base P w K mg base) : mg "_law_pick" = some (.ref (He.ga K "_law_pick")) := He.glo_ok B.KX B.G (B.c.fact 24 (f := .glo "_law_pick") rfl)
theorem gl__law_power (B : Base P w K mg base) : mg "_law_power" = some (.ref (He.ga K "_law_power")) := He.glo_ok B.KX B.G (B.c.fact 25 (f := .glo "_law_power") rfl)
theorem gl__law_divisor (B : Base P w K mg base) : mg "_law_divisor" = some (.ref (He.ga K "_law_divisor")) := He.glo_ok B.KX B.G (B.c.fact 26 (f := .glo "_law_divisor") rfl)
theorem gl__law_lowest (B : Base P w K mg base) : mg "_law_lowest" = some (.ref (He.ga K "_law_lowest")) := He.glo_ok B.KX B.G (B.c.fact 27 (f := .glo "_law_lowest") rfl)
theorem gl__law_parts (B : Base P w K mg base) : mg "_law_parts" = some (.ref (He.ga K "_law_parts")) := He.glo_ok B.KX B.G (B.c.fact 28 (f := .glo "_law_parts") rfl)
theorem gl__law_class_list (B : Base P w K mg base) : mg "_law_class_list" = some (.ref (He.ga K "_law_class_list")) := He.glo_ok B.KX B.G (B.c.fact 29 (f := .glo "_law_class_list") rfl)
theorem gl__law_classes_modulo (B : Base P w K mg base) : mg "_law_classes_modulo" = some (.ref (He.ga K "_law_classes_modulo")) := He.glo_ok B.KX B.G (B.c.fact 30 (f := .glo "_law_classes_modulo") rfl)
theorem gl__law_some_class (B : Base P w K mg base) : mg "_law_some_class" = some (.ref (He.ga K "_law_some_class")) := He.glo_ok B.KX B.G (B.c.fact 31 (f := .glo "_law_some_class") rfl)
theorem gl__law_bad_class (B : Base P w K mg base) : mg "_law_bad_class" = some (.ref (He.ga K "_law_bad_class")) := He.glo_ok B.KX B.G (B.c.fact 32 (f := .glo "_law_bad_class") rfl)
theorem gl__law_same (B : Base P w K mg base) : mg "_law_same" = some (.ref (He.ga K "_law_same")) := He.glo_ok B.KX B.G (B.c.fact 33 (f := .glo "_law_same") rfl)
theorem gl__law_plain_keys (B : Base P w K mg base) : mg "_law_plain_keys" = some (.ref (He.ga K "_law_plain_keys")) := He.glo_ok B.KX B.G (B.c.fact 34 (f := .glo "_law_plain_keys") rfl)
theorem gl__law_is_whole (B : Base P w K mg base) : mg "_law_is_whole" = some (.ref (He.ga K "_law_is_whole")) := He.glo_ok B.KX B.G (B.c.fact 35 (f := .glo "_law_is_whole") rfl)
theorem gl__law_is_row (B : Base P w K mg base) : mg "_law_is_row" = some (.ref (He.ga K "_law_is_row")) := He.glo_ok B.KX B.G (B.c.fact 36 (f := .glo "_law_is_row") rfl)
theorem gl__law_call (B : Base P w K mg base) : mg "_law_call" = some (.ref (He.ga K "_law_call")) := He.glo_ok B.KX B.G (B.c.fact 37 (f := .glo "_law_call") rfl)
theorem gl__law_refuses (B : Base P w K mg base) : mg "_law_refuses" = some (.ref (He.ga K "_law_refuses")) := He.glo_ok B.KX B.G (B.c.fact 38 (f := .glo "_law_refuses") rfl)
theorem gl__law_places_of (B : Base P w K mg base) : mg "_law_places_of" = some (.ref (He.ga K "_law_places_of")) := He.glo_ok B.KX B.G (B.c.fact 39 (f := .glo "_law_places_of") rfl)
theorem gl__law_meets (B : Base P w K mg base) : mg "_law_meets" = some (.ref (He.ga K "_law_meets")) := He.glo_ok B.KX B.G (B.c.fact 40 (f := .glo "_law_meets") rfl)
theorem gl__law_any (B : Base P w K mg base) : mg "_law_any" = some (.ref (He.ga K "_law_any")) := He.glo_ok B.KX B.G (B.c.fact 41 (f := .glo "_law_any") rfl)
theorem gl__law_modulus_of (B : Base P w K mg base) : mg "_law_modulus_of" = some (.ref (He.ga K "_law_modulus_of")) := He.glo_ok B.KX B.G (B.c.fact 42 (f := .glo "_law_modulus_of") rfl)
theorem gl__law_fractions_right (B : Base P w K mg base) : mg "_law_fractions_right" = some (.ref (He.ga K "_law_fractions_right")) := He.glo_ok B.KX B.G (B.c.fact 43 (f := .glo "_law_fractions_right") rfl)
theorem gl__law_classes_right (B : Base P w K mg base) : mg "_law_classes_right" = some (.ref (He.ga K "_law_classes_right")) := He.glo_ok B.KX B.G (B.c.fact 44 (f := .glo "_law_classes_right") rfl)
theorem gl__law_list_right (B : Base P w K mg base) : mg "_law_list_right" = some (.ref (He.ga K "_law_list_right")) := He.glo_ok B.KX B.G (B.c.fact 45 (f := .glo "_law_list_right") rfl)
theorem gl_law (B : Base P w K mg base) : mg "law" = some (.ref (He.ga K "law")) := He.glo_ok B.KX B.G (B.c.fact 46 (f := .glo "law") rfl)
theorem gl_TooGreatError (B : Base P w K mg base) : mg "TooGreatError" = some (.ref (He.ga K "TooGreatError")) := He.glo_ok B.KX B.G (B.c.fact 47 (f := .glo "TooGreatError") rfl)
theorem gl_NoFraction (B : Base P w K mg base) : mg "NoFraction" = some (.ref (He.ga K "NoFraction")) := He.glo_ok B.KX B.G (B.c.fact 48 (f := .glo "NoFraction") rfl)
theorem gl_BadForm (B : Base P w K mg base) : mg "BadForm" = some (.ref (He.ga K "BadForm")) := He.glo_ok B.KX B.G (B.c.fact 49 (f := .glo "BadForm") rfl)
theorem gl_TooFine (B : Base P w K mg base) : mg "TooFine" = some (.ref (He.ga K "TooFine")) := He.glo_ok B.KX B.G (B.c.fact 50 (f := .glo "TooFine") rfl)
theorem gl_OutOfRange (B : Base P w K mg base) : mg "OutOfRange" = some (.ref (He.ga K "OutOfRange")) := He.glo_ok B.KX B.G (B.c.fact 51 (f := .glo "OutOfRange") rfl)
theorem ct_LAST_PRIME (B : Base P w K mg base) : ∃ t, mg "LAST_PRIME" = some (.int  997 t) := He.int_ok B.KX B.G (B.c.fact 52 (f := .int "LAST_PRIME" 997) rfl)
theorem ct_GREATEST_EXPONENT (B : Base P w K mg base) : ∃ t, mg "GREATEST_EXPONENT" = some (.int  1000 t) := He.int_ok B.KX B.G (B.c.fact 53 (f := .int "GREATEST_EXPONENT" 1000) rfl)
theorem ct_GREATEST_MODULUS (B : Base P w K mg base) : ∃ t, mg "GREATEST_MODULUS" = some (.int  900 t) := He.int_ok B.KX B.G (B.c.fact 54 (f := .int "GREATEST_MODULUS" 900) rfl)
theorem ct_GREATEST_WHOLE_LIST (B : Base P w K mg base) : ∃ t, mg "GREATEST_WHOLE_LIST" = some (.int  60 t) := He.int_ok B.KX B.G (B.c.fact 55 (f := .int "GREATEST_WHOLE_LIST" 60) rfl)
theorem gl_ALL_FRACTIONS (B : Base P w K mg base) : mg "ALL_FRACTIONS" = some (.ref (He.ga K "ALL_FRACTIONS")) := He.glo_ok B.KX B.G (B.c.fact 56 (f := .glo "ALL_FRACTIONS") rfl)
theorem fr_abs (B : Base P w K mg base) : mg "abs" = none := He.free_ok B.KX B.G (B.c.fact 57 (f := .free "abs") rfl)
theorem fr_all (B : Base P w K mg base) : mg "all" = none := He.free_ok B.KX B.G (B.c.fact 58 (f := .free "all") rfl)
theorem fr_bool (B : Base P w K mg base) : mg "bool" = none := He.free_ok B.KX B.G (B.c.fact 59 (f := .free "bool") rfl)
theorem fr_dict (B : Base P w K mg base) : mg "dict" = none := He.free_ok B.KX B.G (B.c.fact 60 (f := .free "dict") rfl)
theorem fr_int (B : Base P w K mg base) : mg "int" = none := He.free_ok B.KX B.G (B.c.fact 61 (f := .free "int") rfl)
theorem fr_isinstance (B : Base P w K mg base) : mg "isinstance" = none := He.free_ok B.KX B.G (B.c.fact 62 (f := .free "isinstance") rfl)
theorem fr_len (B : Base P w K mg base) : mg "len" = none := He.free_ok B.KX B.G (B.c.fact 63 (f := .free "len") rfl)
theorem fr_list (B : Base P w K mg base) : mg "list" = none := He.free_ok B.KX B.G (B.c.fact 64 (f := .free "list") rfl)
theorem fr_range (B : Base P w K mg base) : mg "range" = none := He.free_ok B.KX B.G (B.c.fact 65 (f := .free "range") rfl)
theorem fr_str (B : Base P w K mg base) : mg "str" = none := He.free_ok B.KX B.G (B.c.fact 66 (f := .free "str") rfl)
theorem fr_tuple (B : Base P w K mg base) : mg "tuple" = none := He.free_ok B.KX B.G (B.c.fact 67 (f := .free "tuple") rfl)
theorem fr_zip (B : Base P w K mg base) : mg "zip" = none := He.free_ok B.KX B.G (B.c.fact 68 (f := .free "zip") rfl)
theorem fr_ValueError (B : Base P w K mg base) : mg "ValueError" = none := He.free_ok B.KX B.G (B.c.fact 69 (f := .free "ValueError") rfl)
theorem ex_TooGreatError (B : Base P w K mg base) : PySem.W.excIn K (He.ga K "TooGreatError") He.veBase "ValueError.__new__" = true ∧ PySem.W.keepIn K (.ref (He.ga K "TooGreatError")) = true ∧ PySem.W.subIn K (.ref (He.ga K "TooGreatError")) (.type "BaseException") = some true ∧ PySem.W.typeIn K (.ref (He.ga K "TooGreatError")) = some (.type "type") := He.exc_ok (B.c.fact 70 (f := .exc "TooGreatError") rfl)
theorem ex_NoFraction (B : Base P w K mg base) : PySem.W.excIn K (He.ga K "NoFraction") He.veBase "ValueError.__new__" = true ∧ PySem.W.keepIn K (.ref (He.ga K "NoFraction")) = true ∧ PySem.W.subIn K (.ref (He.ga K "NoFraction")) (.type "BaseException") = some true ∧ PySem.W.typeIn K (.ref (He.ga K "NoFraction")) = some (.type "type") := He.exc_ok (B.c.fact 71 (f := .exc "NoFraction") rfl)
theorem ex_BadForm (B : Base P w K mg base) : PySem.W.excIn K (He.ga K "BadForm") He.veBase "ValueError.__new__" = true ∧ PySem.W.keepIn K (.ref (He.ga K "BadForm")) = true ∧ PySem.W.subIn K (.ref (He.ga K "BadForm")) (.type "BaseException") = some true ∧ PySem.W.typeIn K (.ref (He.ga K "BadForm")) = some (.type "type") := He.exc_ok (B.c.fact 72 (f := .exc "BadForm") rfl)
theorem ex_TooFine (B : Base P w K mg base) : PySem.W.excIn K (He.ga K "TooFine") He.veBase "ValueError.__new__" = true ∧ PySem.W.keepIn K (.ref (He.ga K "TooFine")) = true ∧ PySem.W.subIn K (.ref (He.ga K "TooFine")) (.type "BaseException") = some true ∧ PySem.W.typeIn K (.ref (He.ga K "TooFine")) = some (.type "type") := He.exc_ok (B.c.fact 73 (f := .exc "TooFine") rfl)
theorem df_greatest_divisor (B : Base P w K mg base) : ∃ fd, FunD K "greatest_divisor" "greatest_divisor" (defArgs s_greatest_divisor) (defBody s_greatest_divisor) (defScope s_greatest_divisor) [] [] (He.ga K "greatest_divisor") fd := B.c.def_ 0 (d := d_greatest_divisor) rfl
theorem df_raised (B : Base P w K mg base) : ∃ fd, FunD K "raised" "raised" (defArgs s_raised) (defBody s_raised) (defScope s_raised) [] [] (He.ga K "raised") fd := B.c.def_ 1 (d := d_raised) rfl
theorem df_split_off (B : Base P w K mg base) : ∃ fd, FunD K "split_off" "split_off" (defArgs s_split_off) (defBody s_split_off) (defScope s_split_off) [] [] (He.ga K "split_off") fd := B.c.def_ 2 (d := d_split_off) rfl
theorem df_valuation (B : Base P w K mg base) : ∃ fd, FunD K "valuation" "valuation" (defArgs s_valuation) (defBody s_valuation) (defScope s_valuation) [] [] (He.ga K "valuation") fd := B.c.def_ 3 (d := d_valuation) rfl
theorem df_prime_parts (B : Base P w K mg base) : ∃ fd, FunD K "prime_parts" "prime_parts" (defArgs s_prime_parts) (defBody s_prime_parts) (defScope s_prime_parts) [] [] (He.ga K "prime_parts") fd := B.c.def_ 4 (d := d_prime_parts) rfl
theorem df_inverse_modulo (B : Base P w K mg base) : ∃ fd, FunD K "inverse_modulo" "inverse_modulo" (defArgs s_inverse_modulo) (defBody s_inverse_modulo) (defScope s_inverse_modulo) [] [] (He.ga K "inverse_modulo") fd := B.c.def_ 5 (d := d_inverse_modulo) rfl
theorem df_combine (B : Base P w K mg base) : ∃ fd, FunD K "combine" "combine" (defArgs s_combine) (defBody s_combine) (defScope s_combine) [] [] (He.ga K "combine") fd := B.c.def_ 6 (d := d_combine) rfl
theorem df_lowest (B : Base P w K mg base) : ∃ fd, FunD K "lowest" "lowest" (defArgs s_lowest) (defBody s_lowest) (defScope s_lowest) [] [] (He.ga K "lowest") fd := B.c.def_ 7 (d := d_lowest) rfl
theorem df_check_modulus (B : Base P w K mg base) : ∃ fd, FunD K "check_modulus" "check_modulus" (defArgs s_check_modulus) (defBody s_check_modulus) (defScope s_check_modulus) [] [] (He.ga K "check_modulus") fd := B.c.def_ 8 (d := d_check_modulus) rfl
theorem df_class_at (B : Base P w K mg base) : ∃ fd, FunD K "class_at" "class_at" (defArgs s_class_at) (defBody s_class_at) (defScope s_class_at) [] [] (He.ga K "class_at") fd := B.c.def_ 9 (d := d_class_at) rfl
theorem df_all_classes (B : Base P w K mg base) : ∃ fd, FunD K "all_classes" "all_classes" (defArgs s_all_classes) (defBody s_all_classes) (defScope s_all_classes) [] [] (He.ga K "all_classes") fd := B.c.def_ 10 (d := d_all_classes) rfl
theorem df_class_above (B : Base P w K mg base) : ∃ fd, FunD K "class_above" "class_above" (defArgs s_class_above) (defBody s_class_above) (defScope s_class_above) [] [] (He.ga K "class_above") fd := B.c.def_ 11 (d := d_class_above) rfl
theorem df_class_modulo (B : Base P w K mg base) : ∃ fd, FunD K "class_modulo" "class_modulo" (defArgs s_class_modulo) (defBody s_class_modulo) (defScope s_class_modulo) [] [] (He.ga K "class_modulo") fd := B.c.def_ 12 (d := d_class_modulo) rfl
theorem df_class_total (B : Base P w K mg base) : ∃ fd, FunD K "class_total" "class_total" (defArgs s_class_total) (defBody s_class_total) (defScope s_class_total) [] [] (He.ga K "class_total") fd := B.c.def_ 13 (d := d_class_total) rfl
theorem df_classes_modulo (B : Base P w K mg base) : ∃ fd, FunD K "classes_modulo" "classes_modulo" (defArgs s_classes_modulo) (defBody s_classes_modulo) (defScope s_classes_modulo) [] [] (He.ga K "classes_modulo") fd := B.c.def_ 14 (d := d_classes_modulo) rfl
theorem df_class_key (B : Base P w K mg base) : ∃ fd, FunD K "class_key" "class_key" (defArgs s_class_key) (defBody s_class_key) (defScope s_class_key) [] [] (He.ga K "class_key") fd := B.c.def_ 15 (d := d_class_key) rfl
theorem df_coarsened (B : Base P w K mg base) : ∃ fd, FunD K "coarsened" "coarsened" (defArgs s_coarsened) (defBody s_coarsened) (defScope s_coarsened) [] [] (He.ga K "coarsened") fd := B.c.def_ 16 (d := d_coarsened) rfl
theorem df_is_item (B : Base P w K mg base) : ∃ fd, FunD K "is_item" "is_item" (defArgs s_is_item) (defBody s_is_item) (defScope s_is_item) [] [] (He.ga K "is_item") fd := B.c.def_ 17 (d := d_is_item) rfl
theorem df_is_class (B : Base P w K mg base) : ∃ fd, FunD K "is_class" "is_class" (defArgs s_is_class) (defBody s_is_class) (defScope s_is_class) [] [] (He.ga K "is_class") fd := B.c.def_ 18 (d := d_is_class) rfl
theorem df_fraction_in (B : Base P w K mg base) : ∃ fd, FunD K "fraction_in" "fraction_in" (defArgs s_fraction_in) (defBody s_fraction_in) (defScope s_fraction_in) [] [] (He.ga K "fraction_in") fd := B.c.def_ 19 (d := d_fraction_in) rfl
theorem df__law_store (B : Base P w K mg base) : ∃ fd, FunD K "_law_store" "_law_store" (defArgs s__law_store) (defBody s__law_store) (defScope s__law_store) [] [] (He.ga K "_law_store") fd := B.c.def_ 20 (d := d__law_store) rfl
theorem df__law_mixed (B : Base P w K mg base) : ∃ fd, FunD K "_law_mixed" "_law_mixed" (defArgs s__law_mixed) (defBody s__law_mixed) (defScope s__law_mixed) [] [] (He.ga K "_law_mixed") fd := B.c.def_ 21 (d := d__law_mixed) rfl
theorem df__law_blend (B : Base P w K mg base) : ∃ fd, FunD K "_law_blend" "_law_blend" (defArgs s__law_blend) (defBody s__law_blend) (defScope s__law_blend) [] [] (He.ga K "_law_blend") fd := B.c.def_ 22 (d := d__law_blend) rfl
theorem df__law_take (B : Base P w K mg base) : ∃ fd, FunD K "_law_take" "_law_take" (defArgs s__law_take) (defBody s__law_take) (defScope s__law_take) [] [] (He.ga K "_law_take") fd := B.c.def_ 23 (d := d__law_take) rfl
theorem df__law_pick (B : Base P w K mg base) : ∃ fd, FunD K "_law_pick" "_law_pick" (defArgs s__law_pick) (defBody s__law_pick) (defScope s__law_pick) [] [] (He.ga K "_law_pick") fd := B.c.def_ 24 (d := d__law_pick) rfl
theorem df__law_power (B : Base P w K mg base) : ∃ fd, FunD K "_law_power" "_law_power" (defArgs s__law_power) (defBody s__law_power) (defScope s__law_power) [] [] (He.ga K "_law_power") fd := B.c.def_ 25 (d := d__law_power) rfl
theorem df__law_divisor (B : Base P w K mg base) : ∃ fd, FunD K "_law_divisor" "_law_divisor" (defArgs s__law_divisor) (defBody s__law_divisor) (defScope s__law_divisor) [] [] (He.ga K "_law_divisor") fd := B.c.def_ 26 (d := d__law_divisor) rfl
theorem df__law_lowest (B : Base P w K mg base) : ∃ fd, FunD K "_law_lowest" "_law_lowest" (defArgs s__law_lowest) (defBody s__law_lowest) (defScope s__law_lowest) [] [] (He.ga K "_law_lowest") fd := B.c.def_ 27 (d := d__law_lowest) rfl
theorem df__law_parts (B : Base P w K mg base) : ∃ fd, FunD K "_law_parts" "_law_parts" (defArgs s__law_parts) (defBody s__law_parts) (defScope s__law_parts) [] [] (He.ga K "_law_parts") fd := B.c.def_ 28 (d := d__law_parts) rfl
theorem df__law_class_list (B : Base P w K mg base) : ∃ fd, FunD K "_law_class_list" "_law_class_list" (defArgs s__law_class_list) (defBody s__law_class_list) (defScope s__law_class_list) [] [] (He.ga K "_law_class_list") fd := B.c.def_ 29 (d := d__law_class_list) rfl
theorem df__law_classes_modulo (B : Base P w K mg base) : ∃ fd, FunD K "_law_classes_modulo" "_law_classes_modulo" (defArgs s__law_classes_modulo) (defBody s__law_classes_modulo) (defScope s__law_classes_modulo) [] [] (He.ga K "_law_classes_modulo") fd := B.c.def_ 30 (d := d__law_classes_modulo) rfl
theorem df__law_some_class (B : Base P w K mg base) : ∃ fd, FunD K "_law_some_class" "_law_some_class" (defArgs s__law_some_class) (defBody s__law_some_class) (defScope s__law_some_class) [] [] (He.ga K "_law_some_class") fd := B.c.def_ 31 (d := d__law_some_class) rfl
theorem df__law_bad_class (B : Base P w K mg base) : ∃ fd, FunD K "_law_bad_class" "_law_bad_class" (defArgs s__law_bad_class) (defBody s__law_bad_class) (defScope s__law_bad_class) [] [] (He.ga K "_law_bad_class") fd := B.c.def_ 32 (d := d__law_bad_class) rfl
theorem df__law_same (B : Base P w K mg base) : ∃ fd, FunD K "_law_same" "_law_same" (defArgs s__law_same) (defBody s__law_same) (defScope s__law_same) [] [] (He.ga K "_law_same") fd := B.c.def_ 33 (d := d__law_same) rfl
theorem df__law_plain_keys (B : Base P w K mg base) : ∃ fd, FunD K "_law_plain_keys" "_law_plain_keys" (defArgs s__law_plain_keys) (defBody s__law_plain_keys) (defScope s__law_plain_keys) [] [] (He.ga K "_law_plain_keys") fd := B.c.def_ 34 (d := d__law_plain_keys) rfl
theorem df__law_is_whole (B : Base P w K mg base) : ∃ fd, FunD K "_law_is_whole" "_law_is_whole" (defArgs s__law_is_whole) (defBody s__law_is_whole) (defScope s__law_is_whole) [] [] (He.ga K "_law_is_whole") fd := B.c.def_ 35 (d := d__law_is_whole) rfl
theorem df__law_is_row (B : Base P w K mg base) : ∃ fd, FunD K "_law_is_row" "_law_is_row" (defArgs s__law_is_row) (defBody s__law_is_row) (defScope s__law_is_row) [] [] (He.ga K "_law_is_row") fd := B.c.def_ 36 (d := d__law_is_row) rfl
theorem df__law_call (B : Base P w K mg base) : ∃ fd, FunD K "_law_call" "_law_call" (defArgs s__law_call) (defBody s__law_call) (defScope s__law_call) [] [] (He.ga K "_law_call") fd := B.c.def_ 37 (d := d__law_call) rfl
theorem df__law_refuses (B : Base P w K mg base) : ∃ fd, FunD K "_law_refuses" "_law_refuses" (defArgs s__law_refuses) (defBody s__law_refuses) (defScope s__law_refuses) [] [] (He.ga K "_law_refuses") fd := B.c.def_ 38 (d := d__law_refuses) rfl
theorem df__law_places_of (B : Base P w K mg base) : ∃ fd, FunD K "_law_places_of" "_law_places_of" (defArgs s__law_places_of) (defBody s__law_places_of) (defScope s__law_places_of) [] [] (He.ga K "_law_places_of") fd := B.c.def_ 39 (d := d__law_places_of) rfl
theorem df__law_meets (B : Base P w K mg base) : ∃ fd, FunD K "_law_meets" "_law_meets" (defArgs s__law_meets) (defBody s__law_meets) (defScope s__law_meets) [] [] (He.ga K "_law_meets") fd := B.c.def_ 40 (d := d__law_meets) rfl
theorem df__law_any (B : Base P w K mg base) : ∃ fd, FunD K "_law_any" "_law_any" (defArgs s__law_any) (defBody s__law_any) (defScope s__law_any) [] [] (He.ga K "_law_any") fd := B.c.def_ 41 (d := d__law_any) rfl
theorem df__law_modulus_of (B : Base P w K mg base) : ∃ fd, FunD K "_law_modulus_of" "_law_modulus_of" (defArgs s__law_modulus_of) (defBody s__law_modulus_of) (defScope s__law_modulus_of) [] [] (He.ga K "_law_modulus_of") fd := B.c.def_ 42 (d := d__law_modulus_of) rfl
theorem df__law_fractions_right (B : Base P w K mg base) : ∃ fd, FunD K "_law_fractions_right" "_law_fractions_right" (defArgs s__law_fractions_right) (defBody s__law_fractions_right) (defScope s__law_fractions_right) [] [] (He.ga K "_law_fractions_right") fd := B.c.def_ 43 (d := d__law_fractions_right) rfl
theorem df__law_classes_right (B : Base P w K mg base) : ∃ fd, FunD K "_law_classes_right" "_law_classes_right" (defArgs s__law_classes_right) (defBody s__law_classes_right) (defScope s__law_classes_right) [] [] (He.ga K "_law_classes_right") fd := B.c.def_ 44 (d := d__law_classes_right) rfl
theorem df__law_list_right (B : Base P w K mg base) : ∃ fd, FunD K "_law_list_right" "_law_list_right" (defArgs s__law_list_right) (defBody s__law_list_right) (defScope s__law_list_right) [] [] (He.ga K "_law_list_right") fd := B.c.def_ 45 (d := d__law_list_right) rfl
theorem df_law (B : Base P w K mg base) : ∃ fd, FunD K "law" "law" (defArgs s_law) (defBody s_law) (defScope s_law) [] [] (He.ga K "law") fd := B.c.def_ 46 (d := d_law) rfl
theorem df_OutOfRange_init (B : Base P w K mg base) : ∃ fd, FunD K "__init__" "OutOfRange.__init__" (defArgs s_OutOfRange_init) (defBody s_OutOfRange_init) (defScope s_OutOfRange_init) [] [] (He.fAd K ("OutOfRange", some "__init__")) fd := B.c.def_ 47 (d := d_OutOfRange_init) rfl
theorem exf {K : PySem.W.Frag} (h : exs K = true) : (excCB K (He.ga K "TooGreatError") = true) ∧ (excCB K (He.ga K "NoFraction") = true) ∧ (excCB K (He.ga K "BadForm") = true) ∧ (excCB K (He.ga K "TooFine") = true) ∧ (excCB K (He.ga K "OutOfRange") = true) ∧ (oexB K (He.ga K "OutOfRange") = true) ∧ (PySem.W.findIn K (.ref (He.ga K "OutOfRange")) "name" = some none) ∧ (PySem.W.findIn K (.ref (He.ga K "OutOfRange")) "__init__" = some (some (.ref (He.fAd K ("OutOfRange", some "__init__"))))) ∧ (PySem.W.typeIn K (.ref (He.fAd K ("OutOfRange", some "__init__"))) = some (.type "function")) ∧ (PySem.W.exmOne K (.ref (He.ga K "TooGreatError")) (.ref (He.ga K "TooGreatError")) = some true) ∧ (PySem.W.kitOne K (.ref (He.ga K "TooGreatError")) (.ref (He.ga K "TooGreatError")) = some true) ∧ (PySem.W.exmOne K (.ref (He.ga K "TooGreatError")) (.ref (He.ga K "NoFraction")) = some false) ∧ (PySem.W.kitOne K (.ref (He.ga K "TooGreatError")) (.ref (He.ga K "NoFraction")) = some false) ∧ (PySem.W.exmOne K (.ref (He.ga K "TooGreatError")) (.ref (He.ga K "BadForm")) = some false) ∧ (PySem.W.kitOne K (.ref (He.ga K "TooGreatError")) (.ref (He.ga K "BadForm")) = some false) ∧ (PySem.W.exmOne K (.ref (He.ga K "TooGreatError")) (.ref (He.ga K "TooFine")) = some false) ∧ (PySem.W.kitOne K (.ref (He.ga K "TooGreatError")) (.ref (He.ga K "TooFine")) = some false) ∧ (PySem.W.exmOne K (.ref (He.ga K "TooGreatError")) (.ref (He.ga K "OutOfRange")) = some false) ∧ (PySem.W.kitOne K (.ref (He.ga K "TooGreatError")) (.ref (He.ga K "OutOfRange")) = some false) ∧ (PySem.W.kitOne K (.ref (He.ga K "TooGreatError")) (.type "ValueError") = some true) ∧ (PySem.W.exmOne K (.ref (He.ga K "NoFraction")) (.ref (He.ga K "TooGreatError")) = some true) ∧ (PySem.W.kitOne K (.ref (He.ga K "NoFraction")) (.ref (He.ga K "TooGreatError")) = some true) ∧ (PySem.W.exmOne K (.ref (He.ga K "NoFraction")) (.ref (He.ga K "NoFraction")) = some true) ∧ (PySem.W.kitOne K (.ref (He.ga K "NoFraction")) (.ref (He.ga K "NoFraction")) = some true) ∧ (PySem.W.exmOne K (.ref (He.ga K "NoFraction")) (.ref (He.ga K "BadForm")) = some false) ∧ (PySem.W.kitOne K (.ref (He.ga K "NoFraction")) (.ref (He.ga K "BadForm")) = some false) ∧ (PySem.W.exmOne K (.ref (He.ga K "NoFraction")) (.ref (He.ga K "TooFine")) = some false) ∧ (PySem.W.kitOne K (.ref (He.ga K "NoFraction")) (.ref (He.ga K "TooFine")) = some false) ∧ (PySem.W.exmOne K (.ref (He.ga K "NoFraction")) (.ref (He.ga K "OutOfRange")) = some false) ∧ (PySem.W.kitOne K (.ref (He.ga K "NoFraction")) (.ref (He.ga K "OutOfRange")) = some false) ∧ (PySem.W.kitOne K (.ref (He.ga K "NoFraction")) (.type "ValueError") = some true) ∧ (He.ga K "NoFraction" ≠ He.ga K "TooGreatError") ∧ (He.ga K "NoFraction" ≠ He.ga K "TooFine") ∧ (He.ga K "NoFraction" ≠ He.ga K "OutOfRange") ∧ (PySem.W.exmOne K (.ref (He.ga K "BadForm")) (.ref (He.ga K "TooGreatError")) = some true) ∧ (PySem.W.kitOne K (.ref (He.ga K "BadForm")) (.ref (He.ga K "TooGreatError")) = some true) ∧ (PySem.W.exmOne K (.ref (He.ga K "BadForm")) (.ref (He.ga K "NoFraction")) = some false) ∧ (PySem.W.kitOne K (.ref (He.ga K "BadForm")) (.ref (He.ga K "NoFraction")) = some false) ∧ (PySem.W.exmOne K (.ref (He.ga K "BadForm")) (.ref (He.ga K "BadForm")) = some true) ∧ (PySem.W.kitOne K (.ref (He.ga K "BadForm")) (.ref (He.ga K "BadForm")) = some true) ∧ (PySem.W.exmOne K (.ref (He.ga K "BadForm")) (.ref (He.ga K "TooFine")) = some false) ∧ (PySem.W.kitOne K (.ref (He.ga K "BadForm")) (.ref (He.ga K "TooFine")) = some false) ∧ (PySem.W.exmOne K (.ref (He.ga K "BadForm")) (.ref (He.ga K "OutOfRange")) = some false) ∧ (PySem.W.kitOne K (.ref (He.ga K "BadForm")) (.ref (He.ga K "OutOfRange")) = some false) ∧ (PySem.W.kitOne K (.ref (He.ga K "BadForm")) (.type "ValueError") = some true) ∧ (He.ga K "BadForm" ≠ He.ga K "TooGreatError") ∧ (He.ga K "BadForm" ≠ He.ga K "NoFraction") ∧ (He.ga K "BadForm" ≠ He.ga K "TooFine") ∧ (He.ga K "BadForm" ≠ He.ga K "OutOfRange") ∧ (PySem.W.exmOne K (.ref (He.ga K "TooFine")) (.ref (He.ga K "TooGreatError")) = some true) ∧ (PySem.W.kitOne K (.ref (He.ga K "TooFine")) (.ref (He.ga K "TooGreatError")) = some true) ∧ (PySem.W.exmOne K (.ref (He.ga K "TooFine")) (.ref (He.ga K "NoFraction")) = some false) ∧ (PySem.W.kitOne K (.ref (He.ga K "TooFine")) (.ref (He.ga K "NoFraction")) = some false) ∧ (PySem.W.exmOne K (.ref (He.ga K "TooFine")) (.ref (He.ga K "BadForm")) = some false) ∧ (PySem.W.kitOne K (.ref (He.ga K "TooFine")) (.ref (He.ga K "BadForm")) = some false) ∧ (PySem.W.exmOne K (.ref (He.ga K "TooFine")) (.ref (He.ga K "TooFine")) = some true) ∧ (PySem.W.kitOne K (.ref (He.ga K "TooFine")) (.ref (He.ga K "TooFine")) = some true) ∧ (PySem.W.exmOne K (.ref (He.ga K "TooFine")) (.ref (He.ga K "OutOfRange")) = some false) ∧ (PySem.W.kitOne K (.ref (He.ga K "TooFine")) (.ref (He.ga K "OutOfRange")) = some false) ∧ (PySem.W.kitOne K (.ref (He.ga K "TooFine")) (.type "ValueError") = some true) ∧ (He.ga K "TooFine" ≠ He.ga K "TooGreatError") ∧ (PySem.W.exmOne K (.ref (He.ga K "OutOfRange")) (.ref (He.ga K "TooGreatError")) = some true) ∧ (PySem.W.kitOne K (.ref (He.ga K "OutOfRange")) (.ref (He.ga K "TooGreatError")) = some true) ∧ (PySem.W.exmOne K (.ref (He.ga K "OutOfRange")) (.ref (He.ga K "NoFraction")) = some false) ∧ (PySem.W.kitOne K (.ref (He.ga K "OutOfRange")) (.ref (He.ga K "NoFraction")) = some false) ∧ (PySem.W.exmOne K (.ref (He.ga K "OutOfRange")) (.ref (He.ga K "BadForm")) = some false) ∧ (PySem.W.kitOne K (.ref (He.ga K "OutOfRange")) (.ref (He.ga K "BadForm")) = some false) ∧ (PySem.W.exmOne K (.ref (He.ga K "OutOfRange")) (.ref (He.ga K "TooFine")) = some false) ∧ (PySem.W.kitOne K (.ref (He.ga K "OutOfRange")) (.ref (He.ga K "TooFine")) = some false) ∧ (PySem.W.exmOne K (.ref (He.ga K "OutOfRange")) (.ref (He.ga K "OutOfRange")) = some true) ∧ (PySem.W.kitOne K (.ref (He.ga K "OutOfRange")) (.ref (He.ga K "OutOfRange")) = some true) ∧ (PySem.W.kitOne K (.ref (He.ga K "OutOfRange")) (.type "ValueError") = some true) ∧ (He.ga K "OutOfRange" ≠ He.ga K "TooGreatError") ∧ (He.ga K "OutOfRange" ≠ He.ga K "TooFine") ∧ (He.tupB K "ALL_FRACTIONS" [.int 0, .int 0] = true) := by
  unfold exs at h
  simpa only [ex_0, ex_1, Bool.and_eq_true, decide_eq_true_eq, ne_eq, decide_not, Bool.not_eq_true', decide_eq_false_iff_not, and_assoc] using h
theorem xf_0 (B : Base P w K mg base) : (excCB K (He.ga K "TooGreatError") = true) := (exf B.ex).1
theorem xf_1 (B : Base P w K mg base) : (excCB K (He.ga K "NoFraction") = true) := (exf B.ex).2.1
theorem xf_2 (B : Base P w K mg base) : (excCB K (He.ga K "BadForm") = true) := (exf B.ex).2.2.1
theorem xf_3 (B : Base P w K mg base) : (excCB K (He.ga K "TooFine") = true) := (exf B.ex).2.2.2.1
theorem xf_4 (B : Base P w K mg base) : (excCB K (He.ga K "OutOfRange") = true) := (exf B.ex).2.2.2.2.1
theorem xf_5 (B : Base P w K mg base) : (oexB K (He.ga K "OutOfRange") = true) := (exf B.ex).2.2.2.2.2.1
theorem xf_6 (B : Base P w K mg base) : (PySem.W.findIn K (.ref (He.ga K "OutOfRange")) "name" = some none) := (exf B.ex).2.2.2.2.2.2.1
theorem xf_7 (B : Base P w K mg base) : (PySem.W.findIn K (.ref (He.ga K "OutOfRange")) "__init__" = some (some (.ref (He.fAd K ("OutOfRange", some "__init__"))))) := (exf B.ex).2.2.2.2.2.2.2.1
theorem xf_8 (B : Base P w K mg base) : (PySem.W.typeIn K (.ref (He.fAd K ("OutOfRange", some "__init__"))) = some (.type "function")) := (exf B.ex).2.2.2.2.2.2.2.2.1
theorem xf_9 (B : Base P w K mg base) : (PySem.W.exmOne K (.ref (He.ga K "TooGreatError")) (.ref (He.ga K "TooGreatError")) = some true) := (exf B.ex).2.2.2.2.2.2.2.2.2.1
theorem xf_10 (B : Base P w K mg base) : (PySem.W.kitOne K (.ref (He.ga K "TooGreatError")) (.ref (He.ga K "TooGreatError")) = some true) := (exf B.ex).2.2.2.2.2.2.2.2.2.2.1
theorem xf_11 (B : Base P w K mg base) : (PySem.W.exmOne K (.ref (He.ga K "TooGreatError")) (.ref (He.ga K "NoFraction")) = some false) := (exf B.ex).2.2.2.2.2.2.2.2.2.2.2.1
theorem xf_12 (B : Base P w K mg base) : (PySem.W.kitOne K (.ref (He.ga K "TooGreatError")) (.ref (He.ga K "NoFraction")) = some false) := (exf B.ex).2.2.2.2.2.2.2.2.2.2.2.2.1
theorem xf_13 (B : Base P w K mg base) : (PySem.W.exmOne K (.ref (He.ga K "TooGreatError")) (.ref (He.ga K "BadForm")) = some false) := (exf B.ex).2.2.2.2.2.2.2.2.2.2.2.2.2.1
theorem xf_14 (B : Base P w K mg base) : (PySem.W.kitOne K (.ref (He.ga K "TooGreatError")) (.ref (He.ga K "BadForm")) = some false) := (exf B.ex).2.2.2.2.2.2.2.2.2.2.2.2.2.2.1
theorem xf_15 (B : Base P w K mg base) : (PySem.W.exmOne K (.ref (He.ga K "TooGreatError")) (.ref (He.ga K "TooFine")) = some false) := (exf B.ex).2.2.2.2.2.2.2.2.2.2.2.2.2.2.2.1
theorem xf_16 (B : Base P w K mg base) : (PySem.W.kitOne K (.ref (He.ga K "TooGreatError")) (.ref (He.ga K "TooFine")) = some false) := (exf B.ex).2.2.2.2.2.2.2.2.2.2.2.2.2.2.2.2.1
theorem xf_17 (B : Base P w K mg base) : (PySem.W.exmOne K (.ref (He.ga K "TooGreatError")) (.ref (He.ga K "OutOfRange")) = some false) := (exf B.ex).2.2.2.2.2.2.2.2.2.2.2.2.2.2.2.2.2.1
theorem xf_18 (B : Base P w K mg base) : (PySem.W.kitOne K (.ref (He.ga K "TooGreatError")) (.ref (He.ga K "OutOfRange")) = some false) := (exf B.ex).2.2.2.2.2.2.2.2.2.2.2.2.2.2.2.2.2.2.1
theorem xf_19 (B : Base P w K mg base) : (PySem.W.kitOne K (.ref (He.ga K "TooGreatError")) (.type "ValueError") = some true) := (exf B.ex).2.2.2.2.2.2.2.2.2.2.2.2.2.2.2.2.2.2.2.1
theorem xf_20 (B : Base P w K mg base) : (PySem.W.exmOne K (.ref (He.ga K "NoFraction")) (.ref (He.ga K "TooGreatError")) = some true) := (exf B.ex).2.2.2.2.2.2.2.2.2.2.2.2.2.2.2.2.2.2.2.2.1
theorem xf_21 (B : Base P w K mg base) : (PySem.W.kitOne K (.ref (He.ga K "NoFraction")) (.ref (He.ga K "TooGreatError")) = some true) := (exf B.ex).2.2.2.2.2.2.2.2.2.2.2.2.2.2.2.2.2.2.2.2.2.1
theorem xf_22 (B : Base P w K mg base) : (PySem.W.exmOne K (.ref (He.ga K "NoFraction")) (.ref (He.ga K "NoFraction")) = some true) := (exf B.ex).2.2.2.2.2.2.2.2.2.2.2.2.2.2.2.2.2.2.2.2.2.2.1
theorem xf_23 (B : Base P w K mg base) : (PySem.W.kitOne K (.ref (He.ga K "NoFraction")) (.ref (He.ga K "NoFraction")) = some true) := (exf B.ex).2.2.2.2.2.2.2.2.2.2.2.2.2.2.2.2.2.2.2.2.2.2.2.1
theorem xf_24 (B : Base P w K mg base) : (PySem.W.exmOne K (.ref (He.ga K "NoFraction")) (.ref (He.ga K "BadForm")) = some false) := (exf B.ex).2.2.2.2.2.2.2.2.2.2.2.2.2.2.2.2.2.2.2.2.2.2.2.2.1
theorem xf_25 (B : Base P w K mg base) : (PySem.W.kitOne K (.ref (He.ga K "NoFraction")) (.ref (He.ga K "BadForm")) = some false) := (exf B.ex).2.2.2.2.2.2.2.2.2.2.2.2.2.2.2.2.2.2.2.2.2.2.2.2.2.1
theorem xf_26 (B : Base P w K mg base) : (PySem.W.exmOne K (.ref (He.ga K "NoFraction")) (.ref (He.ga K "TooFine")) = some false) := (exf B.ex).2.2.2.2.2.2.2.2.2.2.2.2.2.2.2.2.2.2.2.2.2.2.2.2.2.2.1
theorem xf_27 (B : Base P w K mg base) : (PySem.W.kitOne K (.ref (He.ga K "NoFraction")) (.ref (He.ga K "TooFine")) = some false) := (exf B.ex).2.2.2.2.2.2.2.2.2.2.2.2.2.2.2.2.2.2.2.2.2.2.2.2.2.2.2.1
theorem xf_28 (B : Base P w K mg base) : (PySem.W.exmOne K (.ref (He.ga K "NoFraction")) (.ref (He.ga K "OutOfRange")) = some false) := (exf B.ex).2.2.2.2.2.2.2.2.2.2.2.2.2.2.2.2.2.2.2.2.2.2.2.2.2.2.2.2.1
theorem xf_29 (B : Base P w K mg base) : (PySem.W.kitOne K (.ref (He.ga K "NoFraction")) (.ref (He.ga K "OutOfRange")) = some false) := (exf B.ex).2.2.2.2.2.2.2.2.2.2.2.2.2.2.2.2.2.2.2.2.2.2.2.2.2.2.2.2.2.1
theorem xf_30 (B : Base P w K mg base) : (PySem.W.kitOne K (.ref (He.ga K "NoFraction")) (.type "ValueError") = some true) := (exf B.ex).2.2.2.2.2.2.2.2.2.2.2.2.2.2.2.2.2.2.2.2.2.2.2.2.2.2.2.2.2.2.1
theorem xf_31 (B : Base P w K mg base) : (He.ga K "NoFraction" ≠ He.ga K "TooGreatError") := (exf B.ex).2.2.2.2.2.2.2.2.2.2.2.2.2.2.2.2.2.2.2.2.2.2.2.2.2.2.2.2.2.2.2.1
theorem xf_32 (B : Base P w K mg base) : (He.ga K "NoFraction" ≠ He.ga K "TooFine") := (exf B.ex).2.2.2.2.2.2.2.2.2.2.2.2.2.2.2.2.2.2.2.2.2.2.2.2.2.2.2.2.2.2.2.2.1
theorem xf_33 (B : Base P w K mg base) : (He.ga K "NoFraction" ≠ He.ga K "OutOfRange") := (exf B.ex).2.2.2.2.2.2.2.2.2.2.2.2.2.2.2.2.2.2.2.2.2.2.2.2.2.2.2.2.2.2.2.2.2.1
theorem xf_34 (B : Base P w K mg base) : (PySem.W.exmOne K (.ref (He.ga K "BadForm")) (.ref (He.ga K "TooGreatError")) = some true) := (exf B.ex).2.2.2.2.2.2.2.2.2.2.2.2.2.2.2.2.2.2.2.2.2.2.2.2.2.2.2.2.2.2.2.2.2.2.1
theorem xf_35 (B : Base P w K mg base) : (PySem.W.kitOne K (.ref (He.ga K "BadForm")) (.ref (He.ga K "TooGreatError")) = some true) := (exf B.ex).2.2.2.2.2.2.2.2.2.2.2.2.2.2.2.2.2.2.2.2.2.2.2.2.2.2.2.2.2.2.2.2.2.2.2.1
theorem xf_36 (B : Base P w K mg base) : (PySem.W.exmOne K (.ref (He.ga K "BadForm")) (.ref (He.ga K "NoFraction")) = some false) := (exf B.ex).2.2.2.2.2.2.2.2.2.2.2.2.2.2.2.2.2.2.2.2.2.2.2.2.2.2.2.2.2.2.2.2.2.2.2.2.1
theorem xf_37 (B : Base P w K mg base) : (PySem.W.kitOne K (.ref (He.ga K "BadForm")) (.ref (He.ga K "NoFraction")) = some false) := (exf B.ex).2.2.2.2.2.2.2.2.2.2.2.2.2.2.2.2.2.2.2.2.2.2.2.2.2.2.2.2.2.2.2.2.2.2.2.2.2.1
theorem xf_38 (B : Base P w K mg base) : (PySem.W.exmOne K (.ref (He.ga K "BadForm")) (.ref (He.ga K "BadForm")) = some true) := (exf B.ex).2.2.2.2.2.2.2.2.2.2.2.2.2.2.2.2.2.2.2.2.2.2.2.2.2.2.2.2.2.2.2.2.2.2.2.2.2.2.1
theorem xf_39 (B : Base P w K mg base) : (PySem.W.kitOne K (.ref (He.ga K "BadForm")) (.ref (He.ga K "BadForm")) = some true) := (exf B.ex).2.2.2.2.2.2.2.2.2.2.2.2.2.2.2.2.2.2.2.2.2.2.2.2.2.2.2.2.2.2.2.2.2.2.2.2.2.2.2.1
theorem xf_40 (B : Base P w K mg base) : (PySem.W.exmOne K (.ref (He.ga K "BadForm")) (.ref (He.ga K "TooFine")) = some false) := (exf B.ex).2.2.2.2.2.2.2.2.2.2.2.2.2.2.2.2.2.2.2.2.2.2.2.2.2.2.2.2.2.2.2.2.2.2.2.2.2.2.2.2.1
theorem xf_41 (B : Base P w K mg base) : (PySem.W.kitOne K (.ref (He.ga K "BadForm")) (.ref (He.ga K "TooFine")) = some false) := (exf B.ex).2.2.2.2.2.2.2.2.2.2.2.2.2.2.2.2.2.2.2.2.2.2.2.2.2.2.2.2.2.2.2.2.2.2.2.2.2.2.2.2.2.1
theorem xf_42 (B : Base P w K mg base) : (PySem.W.exmOne K (.ref (He.ga K "BadForm")) (.ref (He.ga K "OutOfRange")) = some false) := (exf B.ex).2.2.2.2.2.2.2.2.2.2.2.2.2.2.2.2.2.2.2.2.2.2.2.2.2.2.2.2.2.2.2.2.2.2.2.2.2.2.2.2.2.2.1
theorem xf_43 (B : Base P w K mg base) : (PySem.W.kitOne K (.ref (He.ga K "BadForm")) (.ref (He.ga K "OutOfRange")) = some false) := (exf B.ex).2.2.2.2.2.2.2.2.2.2.2.2.2.2.2.2.2.2.2.2.2.2.2.2.2.2.2.2.2.2.2.2.2.2.2.2.2.2.2.2.2.2.2.1
theorem xf_44 (B : Base P w K mg base) : (PySem.W.kitOne K (.ref (He.ga K "BadForm")) (.type "ValueError") = some true) := (exf B.ex).2.2.2.2.2.2.2.2.2.2.2.2.2.2.2.2.2.2.2.2.2.2.2.2.2.2.2.2.2.2.2.2.2.2.2.2.2.2.2.2.2.2.2.2.1
theorem xf_45 (B : Base P w K mg base) : (He.ga K "BadForm" ≠ He.ga K "TooGreatError") := (exf B.ex).2.2.2.2.2.2.2.2.2.2.2.2.2.2.2.2.2.2.2.2.2.2.2.2.2.2.2.2.2.2.2.2.2.2.2.2.2.2.2.2.2.2.2.2.2.1
theorem xf_46 (B : Base P w K mg base) : (He.ga K "BadForm" ≠ He.ga K "NoFraction") := (exf B.ex).2.2.2.2.2.2.2.2.2.2.2.2.2.2.2.2.2.2.2.2.2.2.2.2.2.2.2.2.2.2.2.2.2.2.2.2.2.2.2.2.2.2.2.2.2.2.1
theorem xf_47 (B : Base P w K mg base) : (He.ga K "BadForm" ≠ He.ga K "TooFine") := (exf B.ex).2.2.2.2.2.2.2.2.2.2.2.2.2.2.2.2.2.2.2.2.2.2.2.2.2.2.2.2.2.2.2.2.2.2.2.2.2.2.2.2.2.2.2.2.2.2.2.1
theorem xf_48 (B : Base P w K mg base) : (He.ga K "BadForm" ≠ He.ga K "OutOfRange") := (exf B.ex).2.2.2.2.2.2.2.2.2.2.2.2.2.2.2.2.2.2.2.2.2.2.2.2.2.2.2.2.2.2.2.2.2.2.2.2.2.2.2.2.2.2.2.2.2.2.2.2.1
theorem xf_49 (B : Base P w K mg base) : (PySem.W.exmOne K (.ref (He.ga K "TooFine")) (.ref (He.ga K "TooGreatError")) = some true) := (exf B.ex).2.2.2.2.2.2.2.2.2.2.2.2.2.2.2.2.2.2.2.2.2.2.2.2.2.2.2.2.2.2.2.2.2.2.2.2.2.2.2.2.2.2.2.2.2.2.2.2.2.1
theorem xf_50 (B : Base P w K mg base) : (PySem.W.kitOne K (.ref (He.ga K "TooFine")) (.ref (He.ga K "TooGreatError")) = some true) := (exf B.ex).2.2.2.2.2.2.2.2.2.2.2.2.2.2.2.2.2.2.2.2.2.2.2.2.2.2.2.2.2.2.2.2.2.2.2.2.2.2.2.2.2.2.2.2.2.2.2.2.2.2.1
theorem xf_51 (B : Base P w K mg base) : (PySem.W.exmOne K (.ref (He.ga K "TooFine")) (.ref (He.ga K "NoFraction")) = some false) := (exf B.ex).2.2.2.2.2.2.2.2.2.2.2.2.2.2.2.2.2.2.2.2.2.2.2.2.2.2.2.2.2.2.2.2.2.2.2.2.2.2.2.2.2.2.2.2.2.2.2.2.2.2.2.1
theorem xf_52 (B : Base P w K mg base) : (PySem.W.kitOne K (.ref (He.ga K "TooFine")) (.ref (He.ga K "NoFraction")) = some false) := (exf B.ex).2.2.2.2.2.2.2.2.2.2.2.2.2.2.2.2.2.2.2.2.2.2.2.2.2.2.2.2.2.2.2.2.2.2.2.2.2.2.2.2.2.2.2.2.2.2.2.2.2.2.2.2.1
theorem xf_53 (B : Base P w K mg base) : (PySem.W.exmOne K (.ref (He.ga K "TooFine")) (.ref (He.ga K "BadForm")) = some false) := (exf B.ex).2.2.2.2.2.2.2.2.2.2.2.2.2.2.2.2.2.2.2.2.2.2.2.2.2.2.2.2.2.2.2.2.2.2.2.2.2.2.2.2.2.2.2.2.2.2.2.2.2.2.2.2.2.1
theorem xf_54 (B : Base P w K mg base) : (PySem.W.kitOne K (.ref (He.ga K "TooFine")) (.ref (He.ga K "BadForm")) = some false) := (exf B.ex).2.2.2.2.2.2.2.2.2.2.2.2.2.2.2.2.2.2.2.2.2.2.2.2.2.2.2.2.2.2.2.2.2.2.2.2.2.2.2.2.2.2.2.2.2.2.2.2.2.2.2.2.2.2.1
theorem xf_55 (B : Base P w K mg base) : (PySem.W.exmOne K (.ref (He.ga K "TooFine")) (.ref (He.ga K "TooFine")) = some true) := (exf B.ex).2.2.2.2.2.2.2.2.2.2.2.2.2.2.2.2.2.2.2.2.2.2.2.2.2.2.2.2.2.2.2.2.2.2.2.2.2.2.2.2.2.2.2.2.2.2.2.2.2.2.2.2.2.2.2.1
theorem xf_56 (B : Base P w K mg base) : (PySem.W.kitOne K (.ref (He.ga K "TooFine")) (.ref (He.ga K "TooFine")) = some true) := (exf B.ex).2.2.2.2.2.2.2.2.2.2.2.2.2.2.2.2.2.2.2.2.2.2.2.2.2.2.2.2.2.2.2.2.2.2.2.2.2.2.2.2.2.2.2.2.2.2.2.2.2.2.2.2.2.2.2.2.1
theorem xf_57 (B : Base P w K mg base) : (PySem.W.exmOne K (.ref (He.ga K "TooFine")) (.ref (He.ga K "OutOfRange")) = some false) := (exf B.ex).2.2.2.2.2.2.2.2.2.2.2.2.2.2.2.2.2.2.2.2.2.2.2.2.2.2.2.2.2.2.2.2.2.2.2.2.2.2.2.2.2.2.2.2.2.2.2.2.2.2.2.2.2.2.2.2.2.1
theorem xf_58 (B : Base P w K mg base) : (PySem.W.kitOne K (.ref (He.ga K "TooFine")) (.ref (He.ga K "OutOfRange")) = some false) := (exf B.ex).2.2.2.2.2.2.2.2.2.2.2.2.2.2.2.2.2.2.2.2.2.2.2.2.2.2.2.2.2.2.2.2.2.2.2.2.2.2.2.2.2.2.2.2.2.2.2.2.2.2.2.2.2.2.2.2.2.2.1
theorem xf_59 (B : Base P w K mg base) : (PySem.W.kitOne K (.ref (He.ga K "TooFine")) (.type "ValueError") = some true) := (exf B.ex).2.2.2.2.2.2.2.2.2.2.2.2.2.2.2.2.2.2.2.2.2.2.2.2.2.2.2.2.2.2.2.2.2.2.2.2.2.2.2.2.2.2.2.2.2.2.2.2.2.2.2.2.2.2.2.2.2.2.2.1
theorem xf_60 (B : Base P w K mg base) : (He.ga K "TooFine" ≠ He.ga K "TooGreatError") := (exf B.ex).2.2.2.2.2.2.2.2.2.2.2.2.2.2.2.2.2.2.2.2.2.2.2.2.2.2.2.2.2.2.2.2.2.2.2.2.2.2.2.2.2.2.2.2.2.2.2.2.2.2.2.2.2.2.2.2.2.2.2.2.1
theorem xf_61 (B : Base P w K mg base) : (PySem.W.exmOne K (.ref (He.ga K "OutOfRange")) (.ref (He.ga K "TooGreatError")) = some true) := (exf B.ex).2.2.2.2.2.2.2.2.2.2.2.2.2.2.2.2.2.2.2.2.2.2.2.2.2.2.2.2.2.2.2.2.2.2.2.2.2.2.2.2.2.2.2.2.2.2.2.2.2.2.2.2.2.2.2.2.2.2.2.2.2.1
theorem xf_62 (B : Base P w K mg base) : (PySem.W.kitOne K (.ref (He.ga K "OutOfRange")) (.ref (He.ga K "TooGreatError")) = some true) := (exf B.ex).2.2.2.2.2.2.2.2.2.2.2.2.2.2.2.2.2.2.2.2.2.2.2.2.2.2.2.2.2.2.2.2.2.2.2.2.2.2.2.2.2.2.2.2.2.2.2.2.2.2.2.2.2.2.2.2.2.2.2.2.2.2.1
theorem xf_63 (B : Base P w K mg base) : (PySem.W.exmOne K (.ref (He.ga K "OutOfRange")) (.ref (He.ga K "NoFraction")) = some false) := (exf B.ex).2.2.2.2.2.2.2.2.2.2.2.2.2.2.2.2.2.2.2.2.2.2.2.2.2.2.2.2.2.2.2.2.2.2.2.2.2.2.2.2.2.2.2.2.2.2.2.2.2.2.2.2.2.2.2.2.2.2.2.2.2.2.2.1
theorem xf_64 (B : Base P w K mg base) : (PySem.W.kitOne K (.ref (He.ga K "OutOfRange")) (.ref (He.ga K "NoFraction")) = some false) := (exf B.ex).2.2.2.2.2.2.2.2.2.2.2.2.2.2.2.2.2.2.2.2.2.2.2.2.2.2.2.2.2.2.2.2.2.2.2.2.2.2.2.2.2.2.2.2.2.2.2.2.2.2.2.2.2.2.2.2.2.2.2.2.2.2.2.2.1
theorem xf_65 (B : Base P w K mg base) : (PySem.W.exmOne K (.ref (He.ga K "OutOfRange")) (.ref (He.ga K "BadForm")) = some false) := (exf B.ex).2.2.2.2.2.2.2.2.2.2.2.2.2.2.2.2.2.2.2.2.2.2.2.2.2.2.2.2.2.2.2.2.2.2.2.2.2.2.2.2.2.2.2.2.2.2.2.2.2.2.2.2.2.2.2.2.2.2.2.2.2.2.2.2.2.1
theorem xf_66 (B : Base P w K mg base) : (PySem.W.kitOne K (.ref (He.ga K "OutOfRange")) (.ref (He.ga K "BadForm")) = some false) := (exf B.ex).2.2.2.2.2.2.2.2.2.2.2.2.2.2.2.2.2.2.2.2.2.2.2.2.2.2.2.2.2.2.2.2.2.2.2.2.2.2.2.2.2.2.2.2.2.2.2.2.2.2.2.2.2.2.2.2.2.2.2.2.2.2.2.2.2.2.1
theorem xf_67 (B : Base P w K mg base) : (PySem.W.exmOne K (.ref (He.ga K "OutOfRange")) (.ref (He.ga K "TooFine")) = some false) := (exf B.ex).2.2.2.2.2.2.2.2.2.2.2.2.2.2.2.2.2.2.2.2.2.2.2.2.2.2.2.2.2.2.2.2.2.2.2.2.2.2.2.2.2.2.2.2.2.2.2.2.2.2.2.2.2.2.2.2.2.2.2.2.2.2.2.2.2.2.2.1
theorem xf_68 (B : Base P w K mg base) : (PySem.W.kitOne K (.ref (He.ga K "OutOfRange")) (.ref (He.ga K "TooFine")) = some false) := (exf B.ex).2.2.2.2.2.2.2.2.2.2.2.2.2.2.2.2.2.2.2.2.2.2.2.2.2.2.2.2.2.2.2.2.2.2.2.2.2.2.2.2.2.2.2.2.2.2.2.2.2.2.2.2.2.2.2.2.2.2.2.2.2.2.2.2.2.2.2.2.1
theorem xf_69 (B : Base P w K mg base) : (PySem.W.exmOne K (.ref (He.ga K "OutOfRange")) (.ref (He.ga K "OutOfRange")) = some true) := (exf B.ex).2.2.2.2.2.2.2.2.2.2.2.2.2.2.2.2.2.2.2.2.2.2.2.2.2.2.2.2.2.2.2.2.2.2.2.2.2.2.2.2.2.2.2.2.2.2.2.2.2.2.2.2.2.2.2.2.2.2.2.2.2.2.2.2.2.2.2.2.2.1
theorem xf_70 (B : Base P w K mg base) : (PySem.W.kitOne K (.ref (He.ga K "OutOfRange")) (.ref (He.ga K "OutOfRange")) = some true) := (exf B.ex).2.2.2.2.2.2.2.2.2.2.2.2.2.2.2.2.2.2.2.2.2.2.2.2.2.2.2.2.2.2.2.2.2.2.2.2.2.2.2.2.2.2.2.2.2.2.2.2.2.2.2.2.2.2.2.2.2.2.2.2.2.2.2.2.2.2.2.2.2.2.1
theorem xf_71 (B : Base P w K mg base) : (PySem.W.kitOne K (.ref (He.ga K "OutOfRange")) (.type "ValueError") = some true) := (exf B.ex).2.2.2.2.2.2.2.2.2.2.2.2.2.2.2.2.2.2.2.2.2.2.2.2.2.2.2.2.2.2.2.2.2.2.2.2.2.2.2.2.2.2.2.2.2.2.2.2.2.2.2.2.2.2.2.2.2.2.2.2.2.2.2.2.2.2.2.2.2.2.2.1
theorem xf_72 (B : Base P w K mg base) : (He.ga K "OutOfRange" ≠ He.ga K "TooGreatError") := (exf B.ex).2.2.2.2.2.2.2.2.2.2.2.2.2.2.2.2.2.2.2.2.2.2.2.2.2.2.2.2.2.2.2.2.2.2.2.2.2.2.2.2.2.2.2.2.2.2.2.2.2.2.2.2.2.2.2.2.2.2.2.2.2.2.2.2.2.2.2.2.2.2.2.2.1
theorem xf_73 (B : Base P w K mg base) : (He.ga K "OutOfRange" ≠ He.ga K "TooFine") := (exf B.ex).2.2.2.2.2.2.2.2.2.2.2.2.2.2.2.2.2.2.2.2.2.2.2.2.2.2.2.2.2.2.2.2.2.2.2.2.2.2.2.2.2.2.2.2.2.2.2.2.2.2.2.2.2.2.2.2.2.2.2.2.2.2.2.2.2.2.2.2.2.2.2.2.2.1
theorem xf_74 (B : Base P w K mg base) : (He.tupB K "ALL_FRACTIONS" [.int 0, .int 0] = true) := (exf B.ex).2.2.2.2.2.2.2.2.2.2.2.2.2.2.2.2.2.2.2.2.2.2.2.2.2.2.2.2.2.2.2.2.2.2.2.2.2.2.2.2.2.2.2.2.2.2.2.2.2.2.2.2.2.2.2.2.2.2.2.2.2.2.2.2.2.2.2.2.2.2.2.2.2.2
theorem xk_TooGreatError (B : Base P w K mg base) : ExcC K (He.ga K "TooGreatError") := excCB_ok (xf_0 B)
theorem xm_TooGreatError_TooGreatError (B : Base P w K mg base) : PySem.W.exmOne K (.ref (He.ga K "TooGreatError")) (.ref (He.ga K "TooGreatError")) = some true := xf_9 B
theorem xi_TooGreatError_TooGreatError (B : Base P w K mg base) : PySem.W.kitOne K (.ref (He.ga K "TooGreatError")) (.ref (He.ga K "TooGreatError")) = some true := xf_10 B
theorem xm_TooGreatError_NoFraction (B : Base P w K mg base) : PySem.W.exmOne K (.ref (He.ga K "TooGreatError")) (.ref (He.ga K "NoFraction")) = some false := xf_11 B
theorem xi_TooGreatError_NoFraction (B : Base P w K mg base) : PySem.W.kitOne K (.ref (He.ga K "TooGreatError")) (.ref (He.ga K "NoFraction")) = some false := xf_12 B
theorem xm_TooGreatError_BadForm (B : Base P w K mg base) : PySem.W.exmOne K (.ref (He.ga K "TooGreatError")) (.ref (He.ga K "BadForm")) = some false := xf_13 B
theorem xi_TooGreatError_BadForm (B : Base P w K mg base) : PySem.W.kitOne K (.ref (He.ga K "TooGreatError")) (.ref (He.ga K "BadForm")) = some false := xf_14 B
theorem xm_TooGreatError_TooFine (B : Base P w K mg base) : PySem.W.exmOne K (.ref (He.ga K "TooGreatError")) (.ref (He.ga K "TooFine")) = some false := xf_15 B
theorem xi_TooGreatError_TooFine (B : Base P w K mg base) : PySem.W.kitOne K (.ref (He.ga K "TooGreatError")) (.ref (He.ga K "TooFine")) = some false := xf_16 B
theorem xm_TooGreatError_OutOfRange (B : Base P w K mg base) : PySem.W.exmOne K (.ref (He.ga K "TooGreatError")) (.ref (He.ga K "OutOfRange")) = some false := xf_17 B
theorem xi_TooGreatError_OutOfRange (B : Base P w K mg base) : PySem.W.kitOne K (.ref (He.ga K "TooGreatError")) (.ref (He.ga K "OutOfRange")) = some false := xf_18 B
theorem xv_TooGreatError (B : Base P w K mg base) : PySem.W.kitOne K (.ref (He.ga K "TooGreatError")) (.type "ValueError") = some true := xf_19 B
theorem xk_NoFraction (B : Base P w K mg base) : ExcC K (He.ga K "NoFraction") := excCB_ok (xf_1 B)
theorem xm_NoFraction_TooGreatError (B : Base P w K mg base) : PySem.W.exmOne K (.ref (He.ga K "NoFraction")) (.ref (He.ga K "TooGreatError")) = some true := xf_20 B
theorem xi_NoFraction_TooGreatError (B : Base P w K mg base) : PySem.W.kitOne K (.ref (He.ga K "NoFraction")) (.ref (He.ga K "TooGreatError")) = some true := xf_21 B
theorem xm_NoFraction_NoFraction (B : Base P w K mg base) : PySem.W.exmOne K (.ref (He.ga K "NoFraction")) (.ref (He.ga K "NoFraction")) = some true := xf_22 B
theorem xi_NoFraction_NoFraction (B : Base P w K mg base) : PySem.W.kitOne K (.ref (He.ga K "NoFraction")) (.ref (He.ga K "NoFraction")) = some true := xf_23 B
theorem xm_NoFraction_BadForm (B : Base P w K mg base) : PySem.W.exmOne K (.ref (He.ga K "NoFraction")) (.ref (He.ga K "BadForm")) = some false := xf_24 B
theorem xi_NoFraction_BadForm (B : Base P w K mg base) : PySem.W.kitOne K (.ref (He.ga K "NoFraction")) (.ref (He.ga K "BadForm")) = some false := xf_25 B
theorem xm_NoFraction_TooFine (B : Base P w K mg base) : PySem.W.exmOne K (.ref (He.ga K "NoFraction")) (.ref (He.ga K "TooFine")) = some false := xf_26 B
theorem xi_NoFraction_TooFine (B : Base P w K mg base) : PySem.W.kitOne K (.ref (He.ga K "NoFraction")) (.ref (He.ga K "TooFine")) = some false := xf_27 B
theorem xm_NoFraction_OutOfRange (B : Base P w K mg base) : PySem.W.exmOne K (.ref (He.ga K "NoFraction")) (.ref (He.ga K "OutOfRange")) = some false := xf_28 B
theorem xi_NoFraction_OutOfRange (B : Base P w K mg base) : PySem.W.kitOne K (.ref (He.ga K "NoFraction")) (.ref (He.ga K "OutOfRange")) = some false := xf_29 B
theorem xv_NoFraction (B : Base P w K mg base) : PySem.W.kitOne K (.ref (He.ga K "NoFraction")) (.type "ValueError") = some true := xf_30 B
theorem xn_NoFraction_TooGreatError (B : Base P w K mg base) : He.ga K "NoFraction" ≠ He.ga K "TooGreatError" := xf_31 B
theorem xn_NoFraction_TooFine (B : Base P w K mg base) : He.ga K "NoFraction" ≠ He.ga K "TooFine" := xf_32 B
theorem xn_NoFraction_OutOfRange (B : Base P w K mg base) : He.ga K "NoFraction" ≠ He.ga K "OutOfRange" := xf_33 B
theorem xk_BadForm (B : Base P w K mg base) : ExcC K (He.ga K "BadForm") := excCB_ok (xf_2 B)
theorem xm_BadForm_TooGreatError (B : Base P w K mg base) : PySem.W.exmOne K (.ref (He.ga K "BadForm")) (.ref (He.ga K "TooGreatError")) = some true := xf_34 B
theorem xi_BadForm_TooGreatError (B : Base P w K mg base) : PySem.W.kitOne K (.ref (He.ga K "BadForm")) (.ref (He.ga K "TooGreatError")) = some true := xf_35 B
theorem xm_BadForm_NoFraction (B : Base P w K mg base) : PySem.W.exmOne K (.ref (He.ga K "BadForm")) (.ref (He.ga K "NoFraction")) = some false := xf_36 B
theorem xi_BadForm_NoFraction (B : Base P w K mg base) : PySem.W.kitOne K (.ref (He.ga K "BadForm")) (.ref (He.ga K "NoFraction")) = some false := xf_37 B
theorem xm_BadForm_BadForm (B : Base P w K mg base) : PySem.W.exmOne K (.ref (He.ga K "BadForm")) (.ref (He.ga K "BadForm")) = some true := xf_38 B
theorem xi_BadForm_BadForm (B : Base P w K mg base) : PySem.W.kitOne K (.ref (He.ga K "BadForm")) (.ref (He.ga K "BadForm")) = some true := xf_39 B
theorem xm_BadForm_TooFine (B : Base P w K mg base) : PySem.W.exmOne K (.ref (He.ga K "BadForm")) (.ref (He.ga K "TooFine")) = some false := xf_40 B
theorem xi_BadForm_TooFine (B : Base P w K mg base) : PySem.W.kitOne K (.ref (He.ga K "BadForm")) (.ref (He.ga K "TooFine")) = some false := xf_41 B
theorem xm_BadForm_OutOfRange (B : Base P w K mg base) : PySem.W.exmOne K (.ref (He.ga K "BadForm")) (.ref (He.ga K "OutOfRange")) = some false := xf_42 B
theorem xi_BadForm_OutOfRange (B : Base P w K mg base) : PySem.W.kitOne K (.ref (He.ga K "BadForm")) (.ref (He.ga K "OutOfRange")) = some false := xf_43 B
theorem xv_BadForm (B : Base P w K mg base) : PySem.W.kitOne K (.ref (He.ga K "BadForm")) (.type "ValueError") = some true := xf_44 B
theorem xn_BadForm_TooGreatError (B : Base P w K mg base) : He.ga K "BadForm" ≠ He.ga K "TooGreatError" := xf_45 B
theorem xn_BadForm_NoFraction (B : Base P w K mg base) : He.ga K "BadForm" ≠ He.ga K "NoFraction" := xf_46 B
theorem xn_BadForm_TooFine (B : Base P w K mg base) : He.ga K "BadForm" ≠ He.ga K "TooFine" := xf_47 B
theorem xn_BadForm_OutOfRange (B : Base P w K mg base) : He.ga K "BadForm" ≠ He.ga K "OutOfRange" := xf_48 B
theorem xk_TooFine (B : Base P w K mg base) : ExcC K (He.ga K "TooFine") := excCB_ok (xf_3 B)
theorem xm_TooFine_TooGreatError (B : Base P w K mg base) : PySem.W.exmOne K (.ref (He.ga K "TooFine")) (.ref (He.ga K "TooGreatError")) = some true := xf_49 B
theorem xi_TooFine_TooGreatError (B : Base P w K mg base) : PySem.W.kitOne K (.ref (He.ga K "TooFine")) (.ref (He.ga K "TooGreatError")) = some true := xf_50 B
theorem xm_TooFine_NoFraction (B : Base P w K mg base) : PySem.W.exmOne K (.ref (He.ga K "TooFine")) (.ref (He.ga K "NoFraction")) = some false := xf_51 B
theorem xi_TooFine_NoFraction (B : Base P w K mg base) : PySem.W.kitOne K (.ref (He.ga K "TooFine")) (.ref (He.ga K "NoFraction")) = some false := xf_52 B
theorem xm_TooFine_BadForm (B : Base P w K mg base) : PySem.W.exmOne K (.ref (He.ga K "TooFine")) (.ref (He.ga K "BadForm")) = some false := xf_53 B
theorem xi_TooFine_BadForm (B : Base P w K mg base) : PySem.W.kitOne K (.ref (He.ga K "TooFine")) (.ref (He.ga K "BadForm")) = some false := xf_54 B
theorem xm_TooFine_TooFine (B : Base P w K mg base) : PySem.W.exmOne K (.ref (He.ga K "TooFine")) (.ref (He.ga K "TooFine")) = some true := xf_55 B
theorem xi_TooFine_TooFine (B : Base P w K mg base) : PySem.W.kitOne K (.ref (He.ga K "TooFine")) (.ref (He.ga K "TooFine")) = some true := xf_56 B
theorem xm_TooFine_OutOfRange (B : Base P w K mg base) : PySem.W.exmOne K (.ref (He.ga K "TooFine")) (.ref (He.ga K "OutOfRange")) = some false := xf_57 B
theorem xi_TooFine_OutOfRange (B : Base P w K mg base) : PySem.W.kitOne K (.ref (He.ga K "TooFine")) (.ref (He.ga K "OutOfRange")) = some false := xf_58 B
theorem xv_TooFine (B : Base P w K mg base) : PySem.W.kitOne K (.ref (He.ga K "TooFine")) (.type "ValueError") = some true := xf_59 B
theorem xn_TooFine_TooGreatError (B : Base P w K mg base) : He.ga K "TooFine" ≠ He.ga K "TooGreatError" := xf_60 B
theorem xk_OutOfRange (B : Base P w K mg base) : ExcC K (He.ga K "OutOfRange") := excCB_ok (xf_4 B)
theorem xm_OutOfRange_TooGreatError (B : Base P w K mg base) : PySem.W.exmOne K (.ref (He.ga K "OutOfRange")) (.ref (He.ga K "TooGreatError")) = some true := xf_61 B
theorem xi_OutOfRange_TooGreatError (B : Base P w K mg base) : PySem.W.kitOne K (.ref (He.ga K "OutOfRange")) (.ref (He.ga K "TooGreatError")) = some true := xf_62 B
theorem xm_OutOfRange_NoFraction (B : Base P w K mg base) : PySem.W.exmOne K (.ref (He.ga K "OutOfRange")) (.ref (He.ga K "NoFraction")) = some false := xf_63 B
theorem xi_OutOfRange_NoFraction (B : Base P w K mg base) : PySem.W.kitOne K (.ref (He.ga K "OutOfRange")) (.ref (He.ga K "NoFraction")) = some false := xf_64 B
theorem xm_OutOfRange_BadForm (B : Base P w K mg base) : PySem.W.exmOne K (.ref (He.ga K "OutOfRange")) (.ref (He.ga K "BadForm")) = some false := xf_65 B
theorem xi_OutOfRange_BadForm (B : Base P w K mg base) : PySem.W.kitOne K (.ref (He.ga K "OutOfRange")) (.ref (He.ga K "BadForm")) = some false := xf_66 B
theorem xm_OutOfRange_TooFine (B : Base P w K mg base) : PySem.W.exmOne K (.ref (He.ga K "OutOfRange")) (.ref (He.ga K "TooFine")) = some false := xf_67 B
theorem xi_OutOfRange_TooFine (B : Base P w K mg base) : PySem.W.kitOne K (.ref (He.ga K "OutOfRange")) (.ref (He.ga K "TooFine")) = some false := xf_68 B
theorem xm_OutOfRange_OutOfRange (B : Base P w K mg base) : PySem.W.exmOne K (.ref (He.ga K "OutOfRange")) (.ref (He.ga K "OutOfRange")) = some true := xf_69 B
theorem xi_OutOfRange_OutOfRange (B : Base P w K mg base) : PySem.W.kitOne K (.ref (He.ga K "OutOfRange")) (.ref (He.ga K "OutOfRange")) = some true := xf_70 B
theorem xv_OutOfRange (B : Base P w K mg base) : PySem.W.kitOne K (.ref (He.ga K "OutOfRange")) (.type "ValueError") = some true := xf_71 B
theorem xn_OutOfRange_TooGreatError (B : Base P w K mg base) : He.ga K "OutOfRange" ≠ He.ga K "TooGreatError" := xf_72 B
theorem xn_OutOfRange_TooFine (B : Base P w K mg base) : He.ga K "OutOfRange" ≠ He.ga K "TooFine" := xf_73 B
theorem sc_OutOfRange_init : FnScope ["self", "name"] ["self", "name"] (defScope s_OutOfRange_init) := ⟨rfl, rfl, rfl, by decide +kernel, rfl, by decide +kernel, by decide +kernel⟩
theorem xc_OutOfRange (B : Base P w K mg base) : XC1 P w K mg base "OutOfRange" "name" (He.ga K "OutOfRange") where
  gl := gl_OutOfRange B
  ox := oexB_ok (xf_5 B)
  no := xf_6 B
  ini := by
    obtain ⟨fd, D⟩ := df_OutOfRange_init B
    exact ⟨He.fAd K ("OutOfRange", some "__init__"), fd, xf_7 B, xf_8 B, FunD.bindsN D (fun _ _ _ _ _ _ us hl => match us, hl with | [_, _], _ => rfl), init1_ok D sc_OutOfRange_init fun cdv A outer s H E => (pss_one (ps_ost (pv 0) (pv 1)))⟩
theorem tp_ALL_FRACTIONS (B : Base P w K mg base) (H : Hp) : SqT K H (He.ga K "ALL_FRACTIONS") (([.int 0, .int 0] : List He.Dv).map (He.Dv.v K)) := He.tupB_ok (xf_74 B) H
theorem tv_ALL_FRACTIONS (B : Base P w K mg base) {W : WX} {χ : Ep → Value → List (Str × D) → Mu → Prop} {ε : Ep} {μ : Mu} : VE ⟨K, W, χ⟩ (tC (.ref (He.ga K "ALL_FRACTIONS"))) ε μ (.dat (.tup [.int 0, .int 0])) := ve_tupI (tp_ALL_FRACTIONS B) fun _ => (.cons (.int _) (.cons (.int _) .nil))
end
theorem sc__law_store : FnScope ["script", "cells", "seed", "cell"] ["script"] (defScope s__law_store) := ⟨rfl, rfl, rfl, by decide +kernel, rfl, by decide +kernel, by decide +kernel⟩
theorem sc__law_mixed : FnScope ["number", "count", "low", "high", "one", "two"] ["number", "count"] (defScope s__law_mixed) := ⟨rfl, rfl, rfl, by decide +kernel, rfl, by decide +kernel, by decide +kernel⟩
theorem sc__law_blend : FnScope ["number", "count", "many", "drawn", "span", "k"] ["number", "count", "many"] (defScope s__law_blend) := ⟨rfl, rfl, rfl, by decide +kernel, rfl, by decide +kernel, by decide +kernel⟩
theorem sc__law_take : FnScope ["store", "many", "cell", "drawn", "number"] ["store", "many"] (defScope s__law_take) := ⟨rfl, rfl, rfl, by decide +kernel, rfl, by decide +kernel, by decide +kernel⟩
theorem sc__law_pick : FnScope ["store", "things"] ["store", "things"] (defScope s__law_pick) := ⟨rfl, rfl, rfl, by decide +kernel, rfl, by decide +kernel, by decide +kernel⟩
theorem sc__law_modulus_of : FnScope ["store", "rows"] ["store"] (defScope s__law_modulus_of) := ⟨rfl, rfl, rfl, by decide +kernel, rfl, by decide +kernel, by decide +kernel⟩
theorem sc__law_parts : FnScope ["n", "rows", "left", "p", "e", "k"] ["n"] (defScope s__law_parts) := ⟨rfl, rfl, rfl, by decide +kernel, rfl, by decide +kernel, by decide +kernel⟩
theorem sc__law_power : FnScope ["b", "e", "worked", "k"] ["b", "e"] (defScope s__law_power) := ⟨rfl, rfl, rfl, by decide +kernel, rfl, by decide +kernel, by decide +kernel⟩
theorem sc__law_class_list : FnScope ["p", "j", "m", "r", "s"] ["p", "j"] (defScope s__law_class_list) := ⟨rfl, rfl, rfl, by decide +kernel, rfl, by decide +kernel, by decide +kernel⟩
theorem sc__law_classes_modulo : FnScope ["n", "rows", "part", "longer", "c", "d"] ["n"] (defScope s__law_classes_modulo) := ⟨rfl, rfl, rfl, by decide +kernel, rfl, by decide +kernel, by decide +kernel⟩
theorem sc_check_modulus : FnScope ["name", "n", "greatest"] ["name", "n", "greatest"] (defScope s_check_modulus) := ⟨rfl, rfl, rfl, by decide +kernel, rfl, by decide +kernel, by decide +kernel⟩
theorem sc_greatest_divisor : FnScope ["a", "b", "high", "low"] ["a", "b"] (defScope s_greatest_divisor) := ⟨rfl, rfl, rfl, by decide +kernel, rfl, by decide +kernel, by decide +kernel⟩
theorem sc_lowest : FnScope ["x", "y", "divisor"] ["x", "y"] (defScope s_lowest) := ⟨rfl, rfl, rfl, by decide +kernel, rfl, by decide +kernel, by decide +kernel⟩
theorem sc_raised : FnScope ["b", "e", "result", "square", "left"] ["b", "e"] (defScope s_raised) := ⟨rfl, rfl, rfl, by decide +kernel, rfl, by decide +kernel, by decide +kernel⟩
theorem sc_inverse_modulo : FnScope ["a", "m", "high", "low", "before", "now", "times"] ["a", "m"] (defScope s_inverse_modulo) := ⟨rfl, rfl, rfl, by decide +kernel, rfl, by decide +kernel, by decide +kernel⟩
theorem sc_combine : FnScope ["rows", "product", "spare", "m", "s", "n", "r"] ["rows"] (defScope s_combine) := ⟨rfl, rfl, rfl, by decide +kernel, rfl, by decide +kernel, by decide +kernel⟩
theorem sc_split_off : FnScope ["n", "p", "rest", "power"] ["n", "p"] (defScope s_split_off) := ⟨rfl, rfl, rfl, by decide +kernel, rfl, by decide +kernel, by decide +kernel⟩
theorem sc_prime_parts : FnScope ["n", "found", "rest", "d", "power"] ["n"] (defScope s_prime_parts) := ⟨rfl, rfl, rfl, by decide +kernel, rfl, by decide +kernel, by decide +kernel⟩
theorem sc_fraction_in : FnScope ["c", "n", "powers", "p", "j", "x", "item", "power", "y"] ["c", "n"] (defScope s_fraction_in) := ⟨rfl, rfl, rfl, by decide +kernel, rfl, by decide +kernel, by decide +kernel⟩
theorem sc_class_at : FnScope ["f", "p", "j", "x", "y", "power"] ["f", "p", "j"] (defScope s_class_at) := ⟨rfl, rfl, rfl, by decide +kernel, rfl, by decide +kernel, by decide +kernel⟩
theorem sc_class_modulo : FnScope ["f", "n", "p", "j"] ["f", "n"] (defScope s_class_modulo) := ⟨rfl, rfl, rfl, by decide +kernel, rfl, by decide +kernel, by decide +kernel⟩
theorem sc_class_total : FnScope ["n", "total", "p", "j"] ["n"] (defScope s_class_total) := ⟨rfl, rfl, rfl, by decide +kernel, rfl, by decide +kernel, by decide +kernel⟩
theorem sc_all_classes : FnScope ["p", "j", "power", "r", "s"] ["p", "j"] (defScope s_all_classes) := ⟨rfl, rfl, rfl, by decide +kernel, rfl, by decide +kernel, by decide +kernel⟩
theorem sc_classes_modulo : FnScope ["n", "rows", "p", "j", "items_here", "row", "item"] ["n"] (defScope s_classes_modulo) := ⟨rfl, rfl, rfl, by decide +kernel, rfl, by decide +kernel, by decide +kernel⟩
theorem sc_class_above : FnScope ["c", "p", "i", "power"] ["c", "p", "i"] (defScope s_class_above) := ⟨rfl, rfl, rfl, by decide +kernel, rfl, by decide +kernel, by decide +kernel⟩
theorem sc_valuation : FnScope ["n", "p"] ["n", "p"] (defScope s_valuation) := ⟨rfl, rfl, rfl, by decide +kernel, rfl, by decide +kernel, by decide +kernel⟩
theorem sc_coarsened : FnScope ["c", "n", "d", "primes", "p", "spare", "item"] ["c", "n", "d"] (defScope s_coarsened) := ⟨rfl, rfl, rfl, by decide +kernel, rfl, by decide +kernel, by decide +kernel⟩
theorem sc_is_item : FnScope ["item", "p", "j", "above", "below", "power"] ["item", "p", "j"] (defScope s_is_item) := ⟨rfl, rfl, rfl, by decide +kernel, rfl, by decide +kernel, by decide +kernel⟩
theorem sc_is_class : FnScope ["c", "n", "parts", "p", "j", "item"] ["c", "n"] (defScope s_is_class) := ⟨rfl, rfl, rfl, by decide +kernel, rfl, by decide +kernel, by decide +kernel⟩
theorem sc__law_call : FnScope ["word", "things", "bad", "sisters"] ["word", "things"] (defScope s__law_call) := ⟨rfl, rfl, rfl, by decide +kernel, rfl, by decide +kernel, by decide +kernel⟩
theorem sc__law_same : FnScope ["told", "due", "left", "go", "pair", "one", "two", "key", "at"] ["told", "due"] (defScope s__law_same) := ⟨rfl, rfl, rfl, by decide +kernel, rfl, by decide +kernel, by decide +kernel⟩
theorem sc_class_key : FnScope ["c", "key", "above", "below"] ["c"] (defScope s_class_key) := ⟨rfl, rfl, rfl, by decide +kernel, rfl, by decide +kernel, by decide +kernel⟩
theorem sc__law_list_right : FnScope ["n", "due", "answer", "at"] ["n"] (defScope s__law_list_right) := ⟨rfl, rfl, rfl, by decide +kernel, rfl, by decide +kernel, by decide +kernel⟩
theorem sc__law_refuses : FnScope ["word", "things", "name"] ["word", "things", "name"] (defScope s__law_refuses) := ⟨rfl, rfl, rfl, by decide +kernel, rfl, by decide +kernel, by decide +kernel⟩
theorem sc__law_divisor : FnScope ["a", "b", "one", "two", "k", "rest"] ["a", "b"] (defScope s__law_divisor) := ⟨rfl, rfl, rfl, by decide +kernel, rfl, by decide +kernel, by decide +kernel⟩
theorem sc__law_lowest : FnScope ["x", "y", "d"] ["x", "y"] (defScope s__law_lowest) := ⟨rfl, rfl, rfl, by decide +kernel, rfl, by decide +kernel, by decide +kernel⟩
theorem sc__law_any : FnScope ["store", "most"] ["store"] (defScope s__law_any) := ⟨rfl, rfl, rfl, by decide +kernel, rfl, by decide +kernel, by decide +kernel⟩
theorem sc__law_is_whole : FnScope ["told"] ["told"] (defScope s__law_is_whole) := ⟨rfl, rfl, rfl, by decide +kernel, rfl, by decide +kernel, by decide +kernel⟩
theorem sc__law_is_row : FnScope ["told", "kind", "a"] ["told", "kind"] (defScope s__law_is_row) := ⟨rfl, rfl, rfl, by decide +kernel, rfl, by decide +kernel, by decide +kernel⟩
theorem sc__law_places_of : FnScope ["c", "n", "parts", "row", "at", "p", "m"] ["c", "n"] (defScope s__law_places_of) := ⟨rfl, rfl, rfl, by decide +kernel, rfl, by decide +kernel, by decide +kernel⟩
theorem sc__law_meets : FnScope ["c", "n", "f", "other", "many", "rows", "parts", "at", "pair", "k"] ["c", "n", "f", "other", "many"] (defScope s__law_meets) := ⟨rfl, rfl, rfl, by decide +kernel, rfl, by decide +kernel, by decide +kernel⟩
theorem sc__law_fractions_right : FnScope ["store", "n", "f", "g", "rows", "told", "one", "answer", "at", "beside"] ["store", "n"] (defScope s__law_fractions_right) := ⟨rfl, rfl, rfl, by decide +kernel, rfl, by decide +kernel, by decide +kernel⟩
theorem sc__law_some_class : FnScope ["store", "n", "row", "part", "m", "at"] ["store", "n"] (defScope s__law_some_class) := ⟨rfl, rfl, rfl, by decide +kernel, rfl, by decide +kernel, by decide +kernel⟩
theorem sc__law_bad_class : FnScope ["store", "n", "parts", "good", "kind", "at", "p", "m", "bent"] ["store", "n"] (defScope s__law_bad_class) := ⟨rfl, rfl, rfl, by decide +kernel, rfl, by decide +kernel, by decide +kernel⟩
theorem sc__law_classes_right : FnScope ["store", "n", "one", "two", "answer", "f", "d", "k", "coarse", "strange"] ["store", "n"] (defScope s__law_classes_right) := ⟨rfl, rfl, rfl, by decide +kernel, rfl, by decide +kernel, by decide +kernel⟩
theorem sc_law : FnScope ["script", "store", "n", "total", "part", "far", "rows", "row"] ["script"] (defScope s_law) := ⟨rfl, rfl, rfl, by decide +kernel, rfl, by decide +kernel, by decide +kernel⟩
end Lw

/-! ### short steps (local macros over the library's own syntax) -/
open PySem PySem.Spec PyProof.Rows Sn
open L2 hiding prD
local macro_rules | `(tactic| wtm_at "sd") => `(tactic| first
  | with_reducible exact trivial
  | with_reducible assumption
  | (show (0 : Int) < _; omega)
  | (show (0 : Int) < _; decide +kernel)
  | (show CDiv _ _; exact ⟨by omega, by omega⟩)
  | (show CMul _ _; exact Or.inr ⟨by decide, by decide⟩)
  | (show CMul _ _; exact Or.inl ⟨by decide, by decide⟩)
  | (show CMul _ _; exact Or.inl ⟨by omega, by omega⟩)
  | (show CMul _ _; exact Or.inr ⟨by omega, by omega⟩)
  | (show CShl _ _; exact cshl (by wtm_at "bd") (by omega) (by omega))
  | (show CPow _ _; exact ⟨by decide, by decide, by decide⟩)
  | (show CPowX _ _; exact ⟨by decide, by decide, by decide +kernel⟩)
  | (show CMulW _ _; exact cmulw (by wtm_at "bd") (by wtm_at "bd") (by omega))
  | (show CDivW _ _; exact cdivw (by omega) (by wtm_at "bd") (by omega))
  | (show CDivX _ _; exact cdivx (by omega) (by wtm_at "bd") (by omega))
  | omega)
local macro_rules | `(tactic| wtm_at "sz") => `(tactic| (apply Sn.szs; simp only [List.length_cons, List.length_nil, List.length_map, List.length_append]; omega))
local macro_rules | `(tactic| wtm_at "bd") => `(tactic| first
  | with_reducible assumption
  | exact Bd.lit (by decide +kernel)
  | exact Bd.om (by omega) (by omega)
  | exact Bd.neg (by wtm_at "bd")
  | exact Bd.mul (by wtm_at "bd") (by wtm_at "bd")
  | exact Bd.add (by wtm_at "bd") (by wtm_at "bd")
  | exact Bd.sub (by wtm_at "bd") (by wtm_at "bd"))
local macro_rules | `(tactic| wtm_at "vo") => `(tactic| first
  | with_reducible exact vo_eqI
  | with_reducible exact vo_neI
  | with_reducible exact vo_I0
  | with_reducible exact vo_B0
  | ((with_reducible apply vo_I); wtm_at "sd")
  | with_reducible exact vo_neg
  | with_reducible exact vo_isN
  | with_reducible exact vo_notN
  | with_reducible exact vo_eqS
  | with_reducible exact vo_neS
  | with_reducible exact vo_eqB
  | with_reducible exact vo_neB
  | with_reducible exact vo_eqT
  | with_reducible exact vo_neT
  | with_reducible exact vo_eqL
  | with_reducible exact vo_neL
  | ((with_reducible apply vo_ixO); exact rfl)
  | ((with_reducible apply vo_ixL); with_reducible assumption)
  | ((with_reducible apply vo_ixT); with_reducible assumption)
  | ((with_reducible apply vo_ixT); exact rfl)
  | ((with_reducible apply vo_ixL); exact atI_zero)
  | ((with_reducible apply vo_ixT); exact atI_zero)
  | ((with_reducible apply vo_ixL); exact rfl)
  | ((with_reducible apply vo_ixA0); exact rfl; exact rfl)
  | ((with_reducible apply vo_ixA1); exact rfl; exact rfl)
  | ((with_reducible apply vo_ixA2); exact rfl; exact rfl))
local macro_rules | `(tactic| wtm_at "vc") => `(tactic| first
  | with_reducible exact vc_int1
  | with_reducible exact vc_abs
  | with_reducible exact vc_max2
  | with_reducible exact vc_max3
  | with_reducible exact vc_min2
  | with_reducible exact vc_lenT
  | with_reducible exact vc_lenL
  | ((with_reducible apply vc_lenA0); exact rfl)
  | ((with_reducible apply vc_lenA1); exact rfl)
  | ((with_reducible apply vc_lenA2); exact rfl)
  | ((with_reducible apply vc_isi (b := false)); exact D.kd_kind rfl; exact rfl)
  | ((with_reducible apply vc_isi (b := true)); exact D.kd_kind rfl; exact rfl))
local macro_rules | `(tactic| wtm_at "va") => `(tactic| first
  | with_reducible exact va_nil
  | ((with_reducible apply va_cons); (solve | wtm_at "ve"); (solve | wtm_at "va")))
local macro_rules | `(tactic| wtm_at "ve") => `(tactic| first
  | ((with_reducible apply ve_var); exact rfl)
  | with_reducible exact ve_int
  | ((with_reducible apply ve_op); (solve | wtm_at "ve"); (solve | wtm_at "ve"); (solve | wtm_at "vo"))
  | ((with_reducible apply ve_cb); (solve | wtm_at "va"); (solve | wtm_at "vc"))
  | with_reducible exact ve_bl
  | with_reducible exact ve_str
  | with_reducible exact ve_non
  | with_reducible exact ve_ty
  | with_reducible exact ve_cls
  | ((with_reducible apply ve_chain); (solve | wtm_at "ve"); (solve | wtm_at "ve"); (solve | wtm_at "ve"); (solve | wtm_at "vo"); (solve | wtm_at "vo"))
  | ((with_reducible apply ve_bits); (solve | wtm_at "ve"))
  | ((with_reducible apply ve_un); (solve | wtm_at "ve"); (solve | wtm_at "vo"))
  | ((with_reducible apply ve_andV); (solve | wtm_at "ve"); (intro _; (solve | wtm_at "ve")))
  | ((with_reducible apply ve_orV); (solve | wtm_at "ve"); (intro _; (solve | wtm_at "ve")))
  | ((with_reducible apply ve_notV); (solve | wtm_at "ve")))
local macro_rules | `(tactic| wtm_at "hb") => `(tactic| (intro hb; (try simp only [decide_eq_true_eq, decide_eq_false_iff_not, Bool.not_eq_true', Bool.and_eq_true, Bool.or_eq_true, Bool.not_eq_false', Bool.and_eq_false_imp, Bool.or_eq_false_iff] at hb)))
local macro_rules | `(tactic| wtm_at "vt") => `(tactic| first
  | ((with_reducible apply vt_test); (solve | wtm_at "ve"))
  | ((with_reducible apply vt_andF); (solve | wtm_at "vt"); exact rfl)
  | ((with_reducible apply vt_and); (solve | wtm_at "vt"); (wtm_at "hb"; (solve | wtm_at "vt")))
  | ((with_reducible apply vt_orT); (solve | wtm_at "vt"); exact rfl)
  | ((with_reducible apply vt_or); (solve | wtm_at "vt"); (wtm_at "hb"; (solve | wtm_at "vt")))
  | ((with_reducible apply vt_not); (solve | wtm_at "vt"))
  | ((with_reducible apply vt_B); (solve | wtm_at "ve")))
/- one step of a statement: a plain value set, a block opened, an end -/
local macro_rules | `(tactic| wtm_at "rs") => `(tactic| first
  | with_reducible apply rs_seq
  | ((with_reducible apply rs_setv); (solve | wtm_at "ve"); exact rfl; (try dsimp only [List.set_cons_zero, List.set_cons_succ]))
  | ((with_reducible apply rs_parv); (solve | wtm_at "va"); exact rfl; (try dsimp only [List.set_cons_zero, List.set_cons_succ]))
  | ((with_reducible apply rs_retv); (solve | wtm_at "ve"))
  | ((with_reducible apply rs_setItem0); (solve | wtm_at "ve"); (solve | wtm_at "ve"); (solve | wtm_at "ve"); exact rfl; exact rfl; exact rfl; (try dsimp only [List.set_cons_zero, List.set_cons_succ]))
  | ((with_reducible apply rs_setItem1); (solve | wtm_at "ve"); (solve | wtm_at "ve"); (solve | wtm_at "ve"); exact rfl; exact rfl; exact rfl; (try dsimp only [List.set_cons_zero, List.set_cons_succ]))
  | with_reducible apply rs_next
  | with_reducible apply rs_brk
  | with_reducible apply rs_cont)
local macro_rules | `(tactic| wtm_at "ifT") => `(tactic| ((with_reducible apply rs_ifT); (solve | wtm_at "vt"); first | exact rfl | decide))
local macro_rules | `(tactic| wtm_at "ifF") => `(tactic| ((with_reducible apply rs_ifF); (solve | wtm_at "vt"); first | exact rfl | decide))
/- to a call: its arguments plain values -/
local macro_rules | `(tactic| wtm_at "re") => `(tactic| first
  | ((with_reducible apply re_v); (solve | wtm_at "ve"))
  | with_reducible apply re_call
  | with_reducible apply re_op
  | with_reducible apply re_un
  | with_reducible apply re_tupN
  | with_reducible apply re_cb
  | with_reducible apply re_andV
  | with_reducible apply re_orV
  | with_reducible apply re_notV)
local macro_rules | `(tactic| wtm_at "ra") => `(tactic| first
  | with_reducible apply ra_nil
  | with_reducible apply ra_cons)
/- as far as it goes without a choice -/
local macro_rules | `(tactic| wtm_at "rx") => `(tactic| first
  | ((with_reducible apply re_v); (solve | wtm_at "ve"))
  | with_reducible apply re_op
  | with_reducible apply re_un
  | with_reducible apply re_call
  | with_reducible apply re_tupN
  | with_reducible apply re_cb
  | with_reducible apply re_notV
  | with_reducible apply re_chain
  | ((with_reducible apply ra_v); (solve | wtm_at "va"))
  | with_reducible apply ra_cons
  | with_reducible apply ra_nil
  | ((with_reducible apply ro_v); (solve | wtm_at "vo"))
  | ((with_reducible apply rc_v); (solve | wtm_at "vc"))
  | ((with_reducible apply dt_o); exact rfl; (solve | wtm_at "sz"))
  | ((with_reducible apply rg_name); exact rfl; (try dsimp only [List.set_cons_zero, List.set_cons_succ]))
  | ((with_reducible apply rt_v); (solve | wtm_at "vt"))
  | with_reducible apply rt_not
  | with_reducible apply rt_B
  | with_reducible apply rt_test
  | with_reducible apply rt_or
  | with_reducible apply rt_and
  | with_reducible apply tb_b
  | ((with_reducible apply br_t); exact rfl)
  | ((with_reducible apply br_f); exact rfl)
  | ((with_reducible apply or_t); exact rfl)
  | ((with_reducible apply or_f); exact rfl))
local macro_rules | `(tactic| wtm_at "go1") => `(tactic| first
  | wtm_at "rs"
  | with_reducible apply rs_asg
  | with_reducible apply rs_ret
  | ((fail_if_success ((with_reducible apply rs_ifv); (solve | wtm_at "vt"))); (with_reducible apply rs_if))
  | wtm_at "rx")
local macro_rules | `(tactic| wtm_at "go") => `(tactic| repeat wtm_at "go1")
local macro_rules | `(tactic| wtm_at "b8") => `(tactic| first
  | with_reducible assumption
  | exact Bd.up (Bd.lit (by decide +kernel)) (by decide)
  | exact Bd.up (by wtm_at "bd") (by omega))
/- a frozen list of data, written -/
local macro_rules | `(tactic| wtm_at "fl") => `(tactic| ((with_reducible apply re_lst); wtm_at "go"; (with_reducible apply dl_f); exact rfl; (solve | wtm_at "sz"); wtm_at "go"))
/- to the next statement, which is not entered -/
local macro_rules | `(tactic| wtm_at "nx") => `(tactic| ((repeat wtm_at "rx"); (try with_reducible apply rs_next); with_reducible apply rs_seq))
local macro_rules | `(tactic| wtm_at "disp") => `(tactic| repeat (first | (wtm_at "ifT"; wtm_at "go") | (wtm_at "ifF"; wtm_at "go")))
open Lw
local macro_rules | `(tactic| wtm_at "ve") => `(tactic| first
  | with_reducible exact tv_ALL_FRACTIONS (by with_reducible assumption))
namespace Lw
section
variable {P : Program} {w : World} {K : PySem.W.Frag} {mg : Str → Option Value} {base : Heap}

/-! _law_store: a new store -/
def fs__law_store : FS := fun ws μ R _ => ∃ ns : List Int, ws = [.dat (.lst (ns.map .int))] ∧ ns.length ≤ 63 ∧ ∀ st s, Sto s → R (.at st) ((st, .lst s) :: μ)
theorem fn__law_store (B : Base P w K mg base) : Fn P w K mg base "_law_store" 1 ["script"] fs__law_store := by
  refine fn_mk (st := s__law_store) (gl__law_store B) (df__law_store B) sc__law_store (fun ws μ R X h => (by first | exact h.1 | (obtain ⟨_, rfl, _⟩ := h; rfl) | (obtain ⟨_, _, rfl, _⟩ := h; rfl) | (obtain ⟨_, _, _, rfl, _⟩ := h; rfl) | (obtain ⟨_, _, _, _, rfl, _⟩ := h; rfl) | (obtain ⟨_, _, _, _, _, rfl, _⟩ := h; rfl) | (obtain ⟨_, _, _, _, _, _, rfl, _⟩ := h; rfl) | (obtain ⟨_, _, _, _, _, _, _, rfl, _⟩ := h; rfl) | (obtain ⟨_, _, _, _, _, _, _, _, rfl, _⟩ := h; rfl))) (fun _ _ _ _ _ _ us hl => match us, hl with | [_], _ => rfl) fun cdv A outer s H E hr => ⟨_, (pss_cons (ps_set (i := 1) sc__law_store.nd rfl (Or.inl rfl) (pe_callTy cr_listOf (by rfl) (fr_list B) (by decide +kernel) (pa_cons (pv 0) pa_nil)))
  (pss_cons (ps_set (i := 2) sc__law_store.nd rfl (Or.inl rfl) (pe_op op_add pe_int (pe_op op_mul pe_int (pe_callB cr_len (by rfl) (fr_len B) (by decide +kernel) (pa_cons (pv 1) pa_nil)))))
  (pss_cons (ps_for (passes_of rfl) rfl (pi_list (pe_callTy cr_listOf (by rfl) (fr_list B) (by decide +kernel) (pa_cons (pv 1) pa_nil))) (pg_name (i := 3) sc__law_store.nd rfl (Or.inl rfl)) (pss_one (ps_set (i := 2) sc__law_store.nd rfl (Or.inl rfl) (pe_op op_mod (pe_callTy cr_int1 (by rfl) (fr_int B) (by decide +kernel) (pa_cons (pe_op op_add (pe_op op_add (pe_op op_mul (pv 2) pe_int) (pe_op op_mod (pe_callTy cr_int1 (by rfl) (fr_int B) (by decide +kernel) (pa_cons (pv 3) pa_nil)) pe_int)) pe_int) pa_nil)) pe_int))))
  (pss_one (ps_ret (pe_lst (pa_cons (pv 1) (pa_cons pe_int (pa_cons pe_int (pa_cons pe_int (pa_cons pe_int (pa_cons pe_int (pa_cons (pv 2) pa_nil))))))))))))), fun ws μ R X h => ?_⟩
  obtain ⟨ns, rfl, hl, hR⟩ := h
  change RS _ _ [some _, none, none, none] _ _
  (try dsimp only [cxOf])
  wtm_at "rs"
  refine rs_asg (re_cb (ra_v (by wtm_at "va") (rc_listF rfl (rg_name rfl ?_))))
  dsimp only [List.set_cons_zero, List.set_cons_succ]
  wtm_at "rs"
  wtm_at "rs"
  wtm_at "rs"
  refine rs_to (fun ε' μ' => ∃ s k, ε' = [some (.dat (.lst (ns.map .int))), some (.dat (.lst (ns.map .int))), some (.i s), k] ∧ μ' = μ) ?_ ?_
  · refine rs_forL (fun _ ε' μ' => ∃ s k, ε' = [some (.dat (.lst (ns.map .int))), some (.dat (.lst (ns.map .int))), some (.i s), k] ∧ μ' = μ) (re_cb (ra_v (by wtm_at "va") (rc_listF rfl ⟨_, rfl, ⟨_, _, rfl, rfl⟩, ?_, fun ε' μ' q => q⟩)))
    rintro i d ε' μ' hd ⟨s, k, rfl, rfl⟩
    obtain ⟨v, rfl⟩ : ∃ v, d = .int v := by
      rw [List.getElem?_map] at hd
      cases e : ns[i]? with
      | none => rw [e] at hd; cases hd
      | some v => rw [e] at hd; exact ⟨v, (Option.some.inj hd).symm⟩
    refine rg_name rfl ?_
    dsimp only [List.set_cons_zero, List.set_cons_succ]
    wtm_at "rs"
    exact ⟨_, _, rfl, rfl⟩
  · rintro ε' μ' ⟨s, k, rfl, rfl⟩
    refine rs_ret (re_lst (ra_v (by wtm_at "va") (dl_o (by wtm_at "sz") fun st => hR st _ (.mk ns 0 0 0 0 0 s (by decide) (by decide) (by decide)))))

/-! _law_mixed: a number from 0 to 2147483628 -/
def fs__law_mixed : FS := fun ws μ R _ => ∃ n c : Int, ws = [.i n, .i c] ∧ ∀ r, 0 ≤ r → r < 2147483629 → R (.i r) μ
theorem fn__law_mixed (B : Base P w K mg base) : Fn P w K mg base "_law_mixed" 1 ["number", "count"] fs__law_mixed := by
  refine fn_mk (st := s__law_mixed) (gl__law_mixed B) (df__law_mixed B) sc__law_mixed (fun ws μ R X h => (by first | exact h.1 | (obtain ⟨_, rfl, _⟩ := h; rfl) | (obtain ⟨_, _, rfl, _⟩ := h; rfl) | (obtain ⟨_, _, _, rfl, _⟩ := h; rfl) | (obtain ⟨_, _, _, _, rfl, _⟩ := h; rfl) | (obtain ⟨_, _, _, _, _, rfl, _⟩ := h; rfl) | (obtain ⟨_, _, _, _, _, _, rfl, _⟩ := h; rfl) | (obtain ⟨_, _, _, _, _, _, _, rfl, _⟩ := h; rfl) | (obtain ⟨_, _, _, _, _, _, _, _, rfl, _⟩ := h; rfl))) (fun _ _ _ _ _ _ us hl => match us, hl with | [_, _], _ => rfl) fun cdv A outer s H E hr => ⟨_, (pss_cons (ps_set (i := 2) sc__law_mixed.nd rfl (Or.inl rfl) (pe_op op_mod (pe_callTy cr_int1 (by rfl) (fr_int B) (by decide +kernel) (pa_cons (pv 0) pa_nil)) pe_int))
  (pss_cons (ps_set (i := 3) sc__law_mixed.nd rfl (Or.inl rfl) (pe_op op_mod (pe_callTy cr_int1 (by rfl) (fr_int B) (by decide +kernel) (pa_cons (pe_op op_fdivW (pe_callTy cr_int1 (by rfl) (fr_int B) (by decide +kernel) (pa_cons (pv 0) pa_nil)) pe_int) pa_nil)) pe_int))
  (pss_cons (ps_set (i := 4) sc__law_mixed.nd rfl (Or.inl rfl) (pe_op op_mod (pe_callTy cr_int1 (by rfl) (fr_int B) (by decide +kernel) (pa_cons (pe_op op_add (pe_op op_add (pe_op op_add (pe_op op_mul (pv 2) pe_int) (pe_op op_mul (pv 3) pe_int)) (pe_op op_mul (pv 1) pe_int)) pe_int) pa_nil)) pe_int))
  (pss_cons (ps_set (i := 5) sc__law_mixed.nd rfl (Or.inl rfl) (pe_op op_mod (pe_callTy cr_int1 (by rfl) (fr_int B) (by decide +kernel) (pa_cons (pe_op op_add (pe_op op_add (pe_op op_add (pe_op op_mul (pv 4) (pv 4)) (pe_op op_mul (pv 2) pe_int)) (pe_op op_mul (pv 1) pe_int)) pe_int) pa_nil)) pe_int))
  (pss_one (ps_ret (pe_op op_mod (pe_callTy cr_int1 (by rfl) (fr_int B) (by decide +kernel) (pa_cons (pe_op op_add (pe_op op_add (pe_op op_mul (pv 5) pe_int) (pe_op op_mul (pv 4) pe_int)) (pe_op op_mul (pe_op op_fdiv (pv 4) pe_int) (pe_op op_fdiv (pv 5) pe_int))) pa_nil)) pe_int))))))), fun ws μ R X h => ?_⟩
  obtain ⟨n, c, rfl, hR⟩ := h
  change RS _ _ [some _, some _, none, none, none, none] _ _
  (try dsimp only [cxOf])
  wtm_at "rs"
  wtm_at "rs"
  have h1 : 0 ≤ n % 2147483647 ∧ n % 2147483647 < 2147483647 := by omega
  generalize n % 2147483647 = low at h1 ⊢
  wtm_at "rs"
  wtm_at "rs"
  have h2 : 0 ≤ n / 2147483647 % 2147483629 ∧ n / 2147483647 % 2147483629 < 2147483629 := by omega
  generalize n / 2147483647 % 2147483629 = high at h2 ⊢
  wtm_at "rs"
  wtm_at "rs"
  have h3 : 0 ≤ (low * 48271 + high * 40014 + c * 69621 + 12345) % 2147483399 ∧ (low * 48271 + high * 40014 + c * 69621 + 12345) % 2147483399 < 2147483399 := by omega
  generalize (low * 48271 + high * 40014 + c * 69621 + 12345) % 2147483399 = one at h3 ⊢
  wtm_at "rs"
  wtm_at "rs"
  have h4 : 0 ≤ (one * one + low * 16807 + c * 30269 + 977) % 2147483647 ∧ (one * one + low * 16807 + c * 30269 + 977) % 2147483647 < 2147483647 := ⟨Int.emod_nonneg _ (by decide), Int.emod_lt_of_pos _ (by decide)⟩
  generalize (one * one + low * 16807 + c * 30269 + 977) % 2147483647 = two at h4 ⊢
  wtm_at "rs"
  exact hR _ (Int.emod_nonneg _ (by decide)) (Int.emod_lt_of_pos _ (by decide))

/-! _law_blend: a number from 0 to many - 1 -/
def fs__law_blend : FS := fun ws μ R _ => ∃ n c m : Int, ws = [.i n, .i c, .i m] ∧ 0 < m ∧ ∀ r, 0 ≤ r → r < m → R (.i r) μ
theorem fn__law_blend (B : Base P w K mg base) : Fn P w K mg base "_law_blend" 2 ["number", "count", "many"] fs__law_blend := by
  have F__law_mixed := fn__law_mixed B
  refine fn_mk (st := s__law_blend) (gl__law_blend B) (df__law_blend B) sc__law_blend (fun ws μ R X h => (by first | exact h.1 | (obtain ⟨_, rfl, _⟩ := h; rfl) | (obtain ⟨_, _, rfl, _⟩ := h; rfl) | (obtain ⟨_, _, _, rfl, _⟩ := h; rfl) | (obtain ⟨_, _, _, _, rfl, _⟩ := h; rfl) | (obtain ⟨_, _, _, _, _, rfl, _⟩ := h; rfl) | (obtain ⟨_, _, _, _, _, _, rfl, _⟩ := h; rfl) | (obtain ⟨_, _, _, _, _, _, _, rfl, _⟩ := h; rfl) | (obtain ⟨_, _, _, _, _, _, _, _, rfl, _⟩ := h; rfl))) (fun _ _ _ _ _ _ us hl => match us, hl with | [_, _, _], _ => rfl) fun cdv A outer s H E hr => ⟨_, (pss_cons (ps_set (i := 3) sc__law_blend.nd rfl (Or.inl rfl) (pe_fn F__law_mixed hr (by decide) rfl (takes_of rfl rfl rfl rfl) (pa_cons (pv 0) (pa_cons (pv 1) pa_nil))))
  (pss_cons (ps_set (i := 4) sc__law_blend.nd rfl (Or.inl rfl) pe_int)
  (pss_cons (ps_for (passes_of rfl) rfl (pi_range1 rfl (fr_range B) (pa_cons pe_int pa_nil)) (pg_name (i := 5) sc__law_blend.nd rfl (Or.inl rfl)) (pss_cons (ps_if (pt_cmpR op_ge (pv 4) (pe_op op_mul (pv 2) pe_int) (nomark _)) (pss_one ps_break) pss_nil)
  (pss_cons (ps_set (i := 3) sc__law_blend.nd rfl (Or.inl rfl) (pe_op op_add (pe_op op_mul (pv 3) pe_int) (pe_fn F__law_mixed hr (by decide) rfl (takes_of rfl rfl rfl rfl) (pa_cons (pe_op op_add (pe_op op_add (pv 0) pe_int) (pv 5)) (pa_cons (pe_op op_add (pe_op op_add (pe_op op_mul (pv 1) pe_int) (pv 5)) pe_int) pa_nil)))))
  (pss_one (ps_set (i := 4) sc__law_blend.nd rfl (Or.inl rfl) (pe_op op_mul (pv 4) pe_int))))))
  (pss_one (ps_ret (pe_op op_mod (pe_callTy cr_int1 (by rfl) (fr_int B) (by decide +kernel) (pa_cons (pv 3) pa_nil)) (pv 2))))))), fun ws μ R X h => ?_⟩
  obtain ⟨n, c, m, rfl, hm, hR⟩ := h
  change RS _ _ [some _, some _, some _, none, none, none] _ _
  (try dsimp only [cxOf])
  wtm_at "rs"
  refine rs_asg (re_call (ra_v (by wtm_at "va") (callF0 ⟨n, c, rfl, fun d _ _ => rg_name rfl ?_⟩)))
  rw [List.append_nil]
  wtm_at "rs"
  wtm_at "rs"
  wtm_at "rs"
  refine rs_to (fun ε' μ' => ∃ d s k, ε' = [some (.i n), some (.i c), some (.i m), some (.i d), some (.i s), k] ∧ μ' = μ) ?_ ?_
  · refine rs_forR1 (fun _ ε' μ' => ∃ d s k, ε' = [some (.i n), some (.i c), some (.i m), some (.i d), some (.i s), k] ∧ μ' = μ) (by wtm_at "va") (by decide) (by decide) ⟨_, _, _, rfl, rfl⟩ ?_ fun ε' μ' q => q
    rintro i ε' μ' hi ⟨d, s, k, rfl, rfl⟩
    wtm_at "rs"
    refine rs_ifv (by wtm_at "vt") (fun _ => ?_) (fun _ => ?_)
    · wtm_at "rs"
      exact ⟨_, _, _, rfl, rfl⟩
    · wtm_at "rs"
      wtm_at "rs"
      refine rs_asg (re_op (re_v (by wtm_at "ve") (re_call (ra_v (by wtm_at "va") (callF0 ⟨_, _, rfl, fun d' _ _ => ro_v (by wtm_at "vo") (rg_name rfl ?_)⟩)))))
      rw [List.append_nil]
      wtm_at "rs"
      exact ⟨_, _, _, rfl, rfl⟩
  · rintro ε' μ' ⟨d, s, k, rfl, rfl⟩
    wtm_at "rs"
    exact hR _ (Int.emod_nonneg _ (by omega)) (Int.emod_lt_of_pos _ hm)

/-! _law_take: a number from 0 to many - 1, 0 for many < 2; the store stays one -/
def fs__law_take : FS := fun ws μ R _ => ∃ (st : Addr) (s : List W) (m : Int), ws = [.at st, .i m] ∧ μ = [(st, .lst s)] ∧ Sto s ∧ Bd 8000 m ∧ ∀ r s', Sto s' → 0 ≤ r → (r < m ∨ (m < 2 ∧ r = 0)) → R (.i r) [(st, .lst s')]
theorem fn__law_take (B : Base P w K mg base) : Fn P w K mg base "_law_take" 3 ["store", "many"] fs__law_take := by
  have F__law_blend := fn__law_blend B
  refine fn_mk (st := s__law_take) (gl__law_take B) (df__law_take B) sc__law_take (fun ws μ R X h => (by first | exact h.1 | (obtain ⟨_, rfl, _⟩ := h; rfl) | (obtain ⟨_, _, rfl, _⟩ := h; rfl) | (obtain ⟨_, _, _, rfl, _⟩ := h; rfl) | (obtain ⟨_, _, _, _, rfl, _⟩ := h; rfl) | (obtain ⟨_, _, _, _, _, rfl, _⟩ := h; rfl) | (obtain ⟨_, _, _, _, _, _, rfl, _⟩ := h; rfl) | (obtain ⟨_, _, _, _, _, _, _, rfl, _⟩ := h; rfl) | (obtain ⟨_, _, _, _, _, _, _, _, rfl, _⟩ := h; rfl))) (fun _ _ _ _ _ _ us hl => match us, hl with | [_, _], _ => rfl) fun cdv A outer s H E hr => ⟨_, (pss_cons (ps_if (pt_cmpR op_lt (pv 1) pe_int (nomark _)) (pss_one (ps_ret pe_int)) pss_nil)
  (pss_cons (ps_asg (pe_op op_add (pe_ix ix_seq (pv 0) pe_int (fun _ _ => rfl)) pe_int) (pg_sub (pv 0) pe_int set_list))
  (pss_cons (ps_if (PW.pt (pw_and (pt_cmpR op_eq (pe_ix ix_seq (pv 0) pe_int (fun _ _ => rfl)) pe_int (nomark _)) (pw_and (pt_cmpR op_eq (pe_ix ix_seq (pv 0) pe_int (fun _ _ => rfl)) pe_int (nomark _)) (pw_and1 (pt_cmpR op_lt (pe_ix ix_seq (pv 0) pe_int (fun _ _ => rfl)) (pe_callB cr_len (by rfl) (fr_len B) (by decide +kernel) (pa_cons (pe_ix ix_seq (pv 0) pe_int (fun _ _ => rfl)) pa_nil)) (nomark _)))))) (pss_cons (ps_set (i := 2) sc__law_take.nd rfl (Or.inl rfl) (pe_callTy cr_int1 (by rfl) (fr_int B) (by decide +kernel) (pa_cons (pe_ix ix_seq (pe_ix ix_seq (pv 0) pe_int (fun _ _ => rfl)) (pe_ix ix_seq (pv 0) pe_int (fun _ _ => rfl)) (fun _ _ => rfl)) pa_nil)))
  (pss_cons (ps_asg (pe_op op_add (pe_ix ix_seq (pv 0) pe_int (fun _ _ => rfl)) pe_int) (pg_sub (pv 0) pe_int set_list))
  (pss_cons (ps_if (PW.pt (pw_or (pt_cmpR op_ge (pv 2) (pe_op op_pow pe_int pe_int) (nomark _)) (pw_or1 (pt_cmpR op_le (pv 2) (pe_un un_neg (pe_op op_pow pe_int pe_int)) (nomark _))))) (pss_one (ps_asg (pe_op op_mod (pe_callTy cr_int1 (by rfl) (fr_int B) (by decide +kernel) (pa_cons (pv 2) pa_nil)) (pe_op op_powX (pe_op op_pow pe_int pe_int) pe_int)) (pg_sub (pv 0) pe_int set_list))) pss_nil)
  (pss_one (ps_if (pt_cmpR op_eq (pe_ix ix_seq (pv 0) pe_int (fun _ _ => rfl)) pe_int (nomark _)) (pss_cons (ps_asg (pe_op op_mod (pe_callTy cr_int1 (by rfl) (fr_int B) (by decide +kernel) (pa_cons (pv 2) pa_nil)) (pe_op op_mul pe_int (pe_op op_pow pe_int pe_int))) (pg_sub (pv 0) pe_int set_list))
  (pss_one (ps_asg pe_int (pg_sub (pv 0) pe_int set_list)))) pss_nil))))) pss_nil)
  (pss_cons (ps_if (pt_cmpR op_gt (pe_ix ix_seq (pv 0) pe_int (fun _ _ => rfl)) pe_int (nomark _)) (pss_cons (ps_set (i := 3) sc__law_take.nd rfl (Or.inl rfl) (pe_op op_mod (pe_callTy cr_int1 (by rfl) (fr_int B) (by decide +kernel) (pa_cons (pe_ix ix_seq (pv 0) pe_int (fun _ _ => rfl)) pa_nil)) (pv 1)))
  (pss_cons (ps_asg (pe_op op_fdivW (pe_ix ix_seq (pv 0) pe_int (fun _ _ => rfl)) (pv 1)) (pg_sub (pv 0) pe_int set_list))
  (pss_one (ps_ret (pv 3))))) pss_nil)
  (pss_cons (ps_set (i := 4) sc__law_take.nd rfl (Or.inl rfl) (pe_ix ix_seq (pv 0) pe_int (fun _ _ => rfl)))
  (pss_cons (ps_if (pt_cmpR op_gt (pe_ix ix_seq (pv 0) pe_int (fun _ _ => rfl)) pe_int (nomark _)) (pss_cons (ps_asg (pe_op op_sub (pe_ix ix_seq (pv 0) pe_int (fun _ _ => rfl)) pe_int) (pg_sub (pv 0) pe_int set_list))
  (pss_one (ps_set (i := 4) sc__law_take.nd rfl (Or.inl rfl) (pe_ix ix_seq (pv 0) pe_int (fun _ _ => rfl))))) pss_nil)
  (pss_one (ps_ret (pe_fn F__law_blend hr (by decide) rfl (takes_of rfl rfl rfl rfl) (pa_cons (pv 4) (pa_cons (pe_ix ix_seq (pv 0) pe_int (fun _ _ => rfl)) (pa_cons (pv 1) pa_nil)))))))))))), fun ws μ R X h => ?_⟩
  obtain ⟨st, s, m, rfl, rfl, hS, hm, hR⟩ := h
  cases hS with
  | mk cs i r c n l sd hi hr' hn =>
  change RS _ _ [some _, some _, none, none, none] _ _
  (try dsimp only [cxOf])
  wtm_at "rs"
  refine rs_ifv (by wtm_at "vt") ?_ ?_
  · intro hb; (try simp only [decide_eq_true_eq, decide_eq_false_iff_not, Bool.not_eq_true', Bool.and_eq_true, Bool.or_eq_true, Bool.not_eq_false', Bool.and_eq_false_imp, Bool.or_eq_false_iff, Bool.not_true, Bool.not_false] at hb)
    wtm_at "rs"
    exact hR 0 _ (.mk cs i r c n l sd hi hr' hn) (by decide) (.inr ⟨hb, rfl⟩)
  intro hb; (try simp only [decide_eq_true_eq, decide_eq_false_iff_not, Bool.not_eq_true', Bool.and_eq_true, Bool.or_eq_true, Bool.not_eq_false', Bool.and_eq_false_imp, Bool.or_eq_false_iff, Bool.not_true, Bool.not_false] at hb)
  wtm_at "rs"
  wtm_at "rs"
  wtm_at "rs"
  wtm_at "rs"
  refine rs_to (fun ε' μ' => ∃ o s', ε' = [some (.at st), some (.i m), o, none, none] ∧ μ' = [(st, .lst s')] ∧ Sto s') ?_ ?_
  · refine rs_ifv (by wtm_at "vt") ?_ ?_
    · intro hb; (try simp only [decide_eq_true_eq, decide_eq_false_iff_not, Bool.not_eq_true', Bool.and_eq_true, Bool.or_eq_true, Bool.not_eq_false', Bool.and_eq_false_imp, Bool.or_eq_false_iff, Bool.not_true, Bool.not_false] at hb)
      obtain ⟨⟨hb1, hb2⟩, hb3⟩ : (r = 0 ∧ n = 0) ∧ i < (cs.map D.int).length := by
        first | exact ⟨⟨hb.1, hb.2.1⟩, hb.2.2⟩ | exact hb
      obtain ⟨v, hv⟩ := cell_at hi hb3
      repeat wtm_at "rs"
      refine rs_to (fun ε' μ' => ∃ r', 0 ≤ r' ∧ ε' = [some (.at st), some (.i m), some (.i v), none, none] ∧ μ' = [(st, .lst [.dat (.lst (cs.map .int)), .i (i + 1), .i r', .i (c + 1), .i n, .i l, .i sd])]) ?_ ?_
      · refine rs_ifv (by wtm_at "vt") (fun _ => ?_) (fun _ => ?_)
        · wtm_at "rs"
          exact ⟨_, Int.emod_nonneg _ (by decide +kernel), rfl, rfl⟩
        · wtm_at "rs"
          exact ⟨r, hr', rfl, rfl⟩
      · rintro ε' μ' ⟨r', hr2, rfl, rfl⟩
        refine rs_ifv (by wtm_at "vt") (fun _ => ?_) (fun _ => ?_)
        · repeat wtm_at "rs"
          exact ⟨_, _, rfl, rfl, .mk _ _ _ _ _ _ _ (by omega) hr2 (by decide)⟩
        · wtm_at "rs"
          exact ⟨_, _, rfl, rfl, .mk _ _ _ _ _ _ _ (by omega) hr2 hn⟩
    · intro _
      wtm_at "rs"
      exact ⟨_, _, rfl, rfl, .mk _ _ _ _ _ _ _ hi hr' hn⟩
  clear hi hr' hn
  rintro ε' μ' ⟨o, s', rfl, rfl, hS⟩
  cases hS with
  | mk cs i r c n l sd hi hr' hn =>
  have hm0 : 0 < m := by omega
  wtm_at "rs"
  refine rs_ifv (by wtm_at "vt") ?_ ?_
  · intro _
    repeat wtm_at "rs"
    exact hR _ _ (.mk _ _ _ _ _ _ _ hi (Int.ediv_nonneg hr' (by omega)) hn) (Int.emod_nonneg _ (by omega)) (.inl (Int.emod_lt_of_pos _ hm0))
  intro _
  repeat wtm_at "rs"
  refine rs_to (fun ε' μ' => ∃ s' num, ε' = [some (.at st), some (.i m), o, none, some (.i num)] ∧ μ' = [(st, .lst s')] ∧ Sto s') ?_ ?_
  · refine rs_ifv (by wtm_at "vt") ?_ ?_
    · intro hb; (try simp only [decide_eq_true_eq, decide_eq_false_iff_not, Bool.not_eq_true', Bool.and_eq_true, Bool.or_eq_true, Bool.not_eq_false', Bool.and_eq_false_imp, Bool.or_eq_false_iff, Bool.not_true, Bool.not_false] at hb)
      repeat wtm_at "rs"
      exact ⟨_, _, rfl, rfl, .mk _ _ _ _ _ _ _ hi hr' (by omega)⟩
    · intro _
      wtm_at "rs"
      exact ⟨_, _, rfl, rfl, .mk _ _ _ _ _ _ _ hi hr' hn⟩
  clear hi hr' hn
  rintro ε' μ' ⟨s', num, rfl, rfl, hS⟩
  cases hS with
  | mk cs i r c n l sd hi hr' hn =>
  refine rs_ret (re_call (ra_v (by wtm_at "va") (callF0 ⟨_, _, m, rfl, hm0, fun r' h1 h2 => hR r' _ (.mk _ _ _ _ _ _ _ hi hr' hn) h1 (.inl h2)⟩)))
theorem takeF {E : En} {ε : Ep} {μ : Mu} {Ψ : W → Mu → Prop} {st : Addr} {s : List W} {m : Int} (n : Nat) (e : μ.drop n = [(st, .lst s)]) (hS : Sto s) (hm : Bd 8000 m) (h : ∀ r s', Sto s' → 0 ≤ r → (r < m ∨ (m < 2 ∧ r = 0)) → Ψ (.i r) (μ.take n ++ [(st, .lst s')])) : CallF E fs__law_take [.at st, .i m] ε μ Ψ := ⟨n, st, s, m, rfl, e, hS, hm, h⟩
/-- many from 2 on: one below many; the store stands behind none, one, two other owned objects -/
theorem take0 {E : En} {ε : Ep} {Ψ : W → Mu → Prop} {st : Addr} {s : List W} {m : Int} (n : Nat) (hm : decide (m.natAbs < 2 ^ n ∧ 2 ≤ m ∧ n ≤ 8000) = true) (hS : Sto s) (h : ∀ r s', Sto s' → 0 ≤ r → r < m → Bd n r → Ψ (.i r) [(st, .lst s')]) : CallF E fs__law_take [.at st, .i m] ε [(st, .lst s)] Ψ := by
  obtain ⟨h1, h2, h3⟩ := of_decide_eq_true hm
  have hb : Bd n m := ⟨h1⟩
  exact takeF 0 rfl hS (hb.up h3) fun r s' hS' r0 r1 => h r s' hS' r0 (by omega) (hb.le (by omega))
theorem take1 {E : En} {ε : Ep} {Ψ : W → Mu → Prop} {st : Addr} {s : List W} {m : Int} {p : Addr × HC} (n : Nat) (hm : decide (m.natAbs < 2 ^ n ∧ 2 ≤ m ∧ n ≤ 8000) = true) (hS : Sto s) (h : ∀ r s', Sto s' → 0 ≤ r → r < m → Bd n r → Ψ (.i r) [p, (st, .lst s')]) : CallF E fs__law_take [.at st, .i m] ε [p, (st, .lst s)] Ψ := by
  obtain ⟨h1, h2, h3⟩ := of_decide_eq_true hm
  have hb : Bd n m := ⟨h1⟩
  exact takeF 1 rfl hS (hb.up h3) fun r s' hS' r0 r1 => h r s' hS' r0 (by omega) (hb.le (by omega))
theorem take2 {E : En} {ε : Ep} {Ψ : W → Mu → Prop} {st : Addr} {s : List W} {m : Int} {p q : Addr × HC} (n : Nat) (hm : decide (m.natAbs < 2 ^ n ∧ 2 ≤ m ∧ n ≤ 8000) = true) (hS : Sto s) (h : ∀ r s', Sto s' → 0 ≤ r → r < m → Bd n r → Ψ (.i r) [p, q, (st, .lst s')]) : CallF E fs__law_take [.at st, .i m] ε [p, q, (st, .lst s)] Ψ := by
  obtain ⟨h1, h2, h3⟩ := of_decide_eq_true hm
  have hb : Bd n m := ⟨h1⟩
  exact takeF 2 rfl hS (hb.up h3) fun r s' hS' r0 r1 => h r s' hS' r0 (by omega) (hb.le (by omega))

/-! _law_pick: one of the things -/
def fs__law_pick : FS := fun ws μ R _ => ∃ (st : Addr) (s : List W) (d : D) (ds : List D), ws = [.at st, .dat d] ∧ μ = [(st, .lst s)] ∧ Sto s ∧ (d = .lst ds ∨ d = .tup ds) ∧ ds ≠ [] ∧ ds.length < 1000000 ∧ ∀ x s', x ∈ ds → Sto s' → R (.dat x) [(st, .lst s')]
theorem pick_at {ds : List D} {r : Int} (h0 : 0 ≤ r) (h1 : r < (ds.length : Int)) : ∃ x, x ∈ ds ∧ atI ds r = some x := by
  have hl : r.toNat < ds.length := by omega
  exact ⟨ds[r.toNat], List.getElem_mem hl, atI_int h0 (List.getElem?_eq_getElem hl)⟩
theorem pick_bd {n : Nat} (h : n < 1000000) : Bd 8000 (n : Int) := Bd.up (n := 64) (Bd.om (by omega) (by omega)) (by decide)
theorem fn__law_pick (B : Base P w K mg base) : Fn P w K mg base "_law_pick" 4 ["store", "things"] fs__law_pick := by
  have F__law_take := fn__law_take B
  refine fn_mk (st := s__law_pick) (gl__law_pick B) (df__law_pick B) sc__law_pick (fun ws μ R X h => (by first | exact h.1 | (obtain ⟨_, rfl, _⟩ := h; rfl) | (obtain ⟨_, _, rfl, _⟩ := h; rfl) | (obtain ⟨_, _, _, rfl, _⟩ := h; rfl) | (obtain ⟨_, _, _, _, rfl, _⟩ := h; rfl) | (obtain ⟨_, _, _, _, _, rfl, _⟩ := h; rfl) | (obtain ⟨_, _, _, _, _, _, rfl, _⟩ := h; rfl) | (obtain ⟨_, _, _, _, _, _, _, rfl, _⟩ := h; rfl) | (obtain ⟨_, _, _, _, _, _, _, _, rfl, _⟩ := h; rfl))) (fun _ _ _ _ _ _ us hl => match us, hl with | [_, _], _ => rfl) fun cdv A outer s H E hr => ⟨_, (pss_cons (ps_if (pt_cmpR op_eq (pe_callB cr_len (by rfl) (fr_len B) (by decide +kernel) (pa_cons (pv 1) pa_nil)) pe_int (nomark _)) (pss_one (ps_ret pe_non)) pss_nil)
  (pss_one (ps_ret (pe_ix ix_seq (pv 1) (pe_fn F__law_take hr (by decide) rfl (takes_of rfl rfl rfl rfl) (pa_cons (pv 0) (pa_cons (pe_callB cr_len (by rfl) (fr_len B) (by decide +kernel) (pa_cons (pv 1) pa_nil)) pa_nil))) (fun _ _ => rfl))))), fun ws μ R X h => ?_⟩
  obtain ⟨st, s, d, ds, rfl, rfl, hS, hd, hne, hl, hR⟩ := h
  change RS _ _ [some _, some _] _ _
  (try dsimp only [cxOf])
  have hp : 0 < ds.length := List.length_pos_iff.mpr hne
  rcases hd with rfl | rfl
  all_goals
    wtm_at "rs"
    refine rs_ifv (by wtm_at "vt") ?_ ?_
    · intro hb; (try simp only [decide_eq_true_eq, decide_eq_false_iff_not, Bool.not_eq_true', Bool.and_eq_true, Bool.or_eq_true, Bool.not_eq_false', Bool.and_eq_false_imp, Bool.or_eq_false_iff, Bool.not_true, Bool.not_false] at hb)
      omega
    intro hb; (try simp only [decide_eq_true_eq, decide_eq_false_iff_not, Bool.not_eq_true', Bool.and_eq_true, Bool.or_eq_true, Bool.not_eq_false', Bool.and_eq_false_imp, Bool.or_eq_false_iff, Bool.not_true, Bool.not_false] at hb)
    wtm_at "rs"
    refine rs_ret (re_op (re_v (by wtm_at "ve") (re_call (ra_v (by wtm_at "va") ⟨0, st, s, _, rfl, rfl, hS, pick_bd hl, fun r s' hS' h0 h1 => ?_⟩))))
    obtain ⟨x, hx, ha⟩ := pick_at (ds := ds) (r := r) h0 (by omega)
    exact ro_v (by wtm_at "vo") (hR x s' hx hS')
theorem seq_or {d : D} {ds : List D} (h : d.seq = some ds) : d = .lst ds ∨ d = .tup ds := by
  cases d with
  | lst es => cases h; exact .inl rfl
  | tup es => cases h; exact .inr rfl
  | _ => cases h
theorem pick0 {E : En} {ε : Ep} {Ψ : W → Mu → Prop} {st : Addr} {s : List W} {d : D} {ds : List D} (hd : d.seq = some ds) (h0 : ds ≠ []) (hl : ds.length < 1000000) (hS : Sto s) (h : ∀ x s', x ∈ ds → Sto s' → Ψ (.dat x) [(st, .lst s')]) : CallF E fs__law_pick [.at st, .dat d] ε [(st, .lst s)] Ψ := ⟨0, st, s, d, ds, rfl, rfl, hS, seq_or hd, h0, hl, h⟩
theorem pick1 {E : En} {ε : Ep} {Ψ : W → Mu → Prop} {st : Addr} {s : List W} {d : D} {ds : List D} {p : Addr × HC} (hd : d.seq = some ds) (h0 : ds ≠ []) (hl : ds.length < 1000000) (hS : Sto s) (h : ∀ x s', x ∈ ds → Sto s' → Ψ (.dat x) [p, (st, .lst s')]) : CallF E fs__law_pick [.at st, .dat d] ε [p, (st, .lst s)] Ψ := ⟨1, st, s, d, ds, rfl, rfl, hS, seq_or hd, h0, hl, h⟩

/-! _law_modulus_of: a number from 1 to 900 -/
def fs__law_modulus_of : FS := fun ws μ R _ => ∃ (st : Addr) (s : List W), ws = [.at st] ∧ μ = [(st, .lst s)] ∧ Sto s ∧ ∀ (n : Int) s', Sto s' → 1 ≤ n → n ≤ 900 → R (.i n) [(st, .lst s')]
theorem fn__law_modulus_of (B : Base P w K mg base) : Fn P w K mg base "_law_modulus_of" 5 ["store"] fs__law_modulus_of := by
  have F__law_take := fn__law_take B
  have F__law_pick := fn__law_pick B
  refine fn_mk (st := s__law_modulus_of) (gl__law_modulus_of B) (df__law_modulus_of B) sc__law_modulus_of (fun ws μ R X h => (by first | exact h.1 | (obtain ⟨_, rfl, _⟩ := h; rfl) | (obtain ⟨_, _, rfl, _⟩ := h; rfl) | (obtain ⟨_, _, _, rfl, _⟩ := h; rfl) | (obtain ⟨_, _, _, _, rfl, _⟩ := h; rfl) | (obtain ⟨_, _, _, _, _, rfl, _⟩ := h; rfl) | (obtain ⟨_, _, _, _, _, _, rfl, _⟩ := h; rfl) | (obtain ⟨_, _, _, _, _, _, _, rfl, _⟩ := h; rfl) | (obtain ⟨_, _, _, _, _, _, _, _, rfl, _⟩ := h; rfl))) (fun _ _ _ _ _ _ us hl => match us, hl with | [_], _ => rfl) fun cdv A outer s H E hr => ⟨_, (pss_cons (ps_set (i := 1) sc__law_modulus_of.nd rfl (Or.inl rfl) (pe_lst (pa_cons pe_int (pa_cons pe_int (pa_cons pe_int (pa_cons pe_int (pa_cons pe_int (pa_cons pe_int (pa_cons pe_int (pa_cons pe_int (pa_cons pe_int (pa_cons pe_int (pa_cons pe_int (pa_cons pe_int (pa_cons pe_int (pa_cons pe_int (pa_cons pe_int (pa_cons pe_int pa_nil))))))))))))))))))
  (pss_one (ps_ret (pe_ix ix_seq (pe_lst (pa_cons (pe_op op_add pe_int (pe_fn F__law_take hr (by decide) rfl (takes_of rfl rfl rfl rfl) (pa_cons (pv 0) (pa_cons pe_int pa_nil)))) (pa_cons (pe_op op_add pe_int (pe_fn F__law_take hr (by decide) rfl (takes_of rfl rfl rfl rfl) (pa_cons (pv 0) (pa_cons pe_int pa_nil)))) (pa_cons (pe_fn F__law_pick hr (by decide) rfl (takes_of rfl rfl rfl rfl) (pa_cons (pv 0) (pa_cons (pv 1) pa_nil))) pa_nil)))) (pe_fn F__law_take hr (by decide) rfl (takes_of rfl rfl rfl rfl) (pa_cons (pv 0) (pa_cons pe_int pa_nil))) (fun _ _ => rfl))))), fun ws μ R X h => ?_⟩
  obtain ⟨st, s, rfl, rfl, hS, hR⟩ := h
  change RS _ _ [some _, none] _ _
  (try dsimp only [cxOf])
  wtm_at "rs"
  refine rs_asg ?_
  wtm_at "fl"
  wtm_at "go"
  refine re_lst ?_
  wtm_at "go"
  refine take0 6 (by decide +kernel) hS fun a s1 hS1 a0 a1 _ => ?_
  wtm_at "go"
  refine take0 10 (by decide +kernel) hS1 fun b s2 hS2 b0 b1 _ => ?_
  wtm_at "go"
  refine pick0 rfl (by simp) (by simp) hS2 fun x s3 hx hS3 => ?_
  obtain ⟨c, rfl, c1, c2⟩ : ∃ c, x = .int c ∧ 1 ≤ c ∧ c ≤ 900 := by
    simp only [List.mem_cons, List.not_mem_nil, or_false] at hx
    rcases hx with h | h | h | h | h | h | h | h | h | h | h | h | h | h | h | h <;> exact ⟨_, h, by decide, by decide⟩
  wtm_at "go"
  refine dl_f rfl (by wtm_at "sz") ?_
  wtm_at "go"
  refine take0 2 (by decide +kernel) hS3 fun r s4 hS4 r0 r1 _ => ?_
  refine ro_pickL (fun d => ∃ n, d = D.int n ∧ 1 ≤ n ∧ n ≤ 900) r0 r1 ⟨⟨_, rfl, by omega, by omega⟩, ⟨_, rfl, by omega, by omega⟩, ⟨_, rfl, c1, c2⟩, trivial⟩ ?_
  rintro _ ⟨n, rfl, n1, n2⟩
  exact hR n s4 hS4 n1 n2

/-! _law_parts: the own parts, as frozen data -/
def fs__law_parts : FS := fun ws μ R _ => ∃ n : Int, ws = [.i n] ∧ 1 ≤ n ∧ Bd 8000 n ∧ R (.dat (lpD n)) μ
theorem ppI_le {n : Int} (hn : 1 ≤ n) {i : Nat} (hi : i ≤ 996) : (ppI n i).2.1 ≤ n := by
  have h := (ppI_ok hn i hi)
  have h1 := prodF_mul (ppI n i).2.1 (ppI n i).1 1
  rw [Int.mul_one, ← h.pr] at h1
  have h2 := prodF_pos h.pm (Int.le_refl 1)
  have h3 := Int.mul_le_mul_of_nonneg_left h2 (show 0 ≤ (ppI n i).2.1 by have := h.r1; omega)
  rw [Int.mul_one] at h3
  omega
theorem fn__law_parts (B : Base P w K mg base) : Fn P w K mg base "_law_parts" 1 ["n"] fs__law_parts := by
  refine fn_mk (st := s__law_parts) (gl__law_parts B) (df__law_parts B) sc__law_parts (fun ws μ R X h => (by first | exact h.1 | (obtain ⟨_, rfl, _⟩ := h; rfl) | (obtain ⟨_, _, rfl, _⟩ := h; rfl) | (obtain ⟨_, _, _, rfl, _⟩ := h; rfl) | (obtain ⟨_, _, _, _, rfl, _⟩ := h; rfl) | (obtain ⟨_, _, _, _, _, rfl, _⟩ := h; rfl) | (obtain ⟨_, _, _, _, _, _, rfl, _⟩ := h; rfl) | (obtain ⟨_, _, _, _, _, _, _, rfl, _⟩ := h; rfl) | (obtain ⟨_, _, _, _, _, _, _, _, rfl, _⟩ := h; rfl))) (fun _ _ _ _ _ _ us hl => match us, hl with | [_], _ => rfl) fun cdv A outer s H E hr => ⟨_, (pss_cons (ps_set (i := 1) sc__law_parts.nd rfl (Or.inl rfl) (pe_lst pa_nil))
  (pss_cons (ps_set (i := 2) sc__law_parts.nd rfl (Or.inl rfl) (pe_callTy cr_int1 (by rfl) (fr_int B) (by decide +kernel) (pa_cons (pv 0) pa_nil)))
  (pss_cons (ps_for (passes_of rfl) rfl (pi_range2 rfl (fr_range B) (pa_cons pe_int (pa_cons pe_int pa_nil))) (pg_name (i := 3) sc__law_parts.nd rfl (Or.inl rfl)) (pss_cons (ps_if (pt_cmpR op_gt (pe_op op_mulW (pv 3) (pv 3)) (pv 2) (nomark _)) (pss_one ps_break) pss_nil)
  (pss_cons (ps_set (i := 4) sc__law_parts.nd rfl (Or.inl rfl) pe_int)
  (pss_cons (ps_for (passes_of rfl) rfl (pi_range1 rfl (fr_range B) (pa_cons pe_int pa_nil)) (pg_name (i := 5) sc__law_parts.nd rfl (Or.inl rfl)) (pss_cons (ps_if (pt_cmpR op_ne (pe_op op_mod (pe_callTy cr_int1 (by rfl) (fr_int B) (by decide +kernel) (pa_cons (pv 2) pa_nil)) (pv 3)) pe_int (nomark _)) (pss_one ps_break) pss_nil)
  (pss_cons (ps_set (i := 2) sc__law_parts.nd rfl (Or.inl rfl) (pe_op op_fdivW (pv 2) (pv 3)))
  (pss_one (ps_set (i := 4) sc__law_parts.nd rfl (Or.inl rfl) (pe_op op_add (pv 4) pe_int))))))
  (pss_one (ps_if (pt_cmpR op_gt (pv 4) pe_int (nomark _)) (pss_one (ps_expr (pe_bm PySem.F.plainAttrs_list PySem.F.slot_list_append PySem.F.type_list_append mt_append (pv 1) (pa_cons (pe_tup (pa_cons (pv 3) (pa_cons (pv 4) pa_nil))) pa_nil)))) pss_nil))))))
  (pss_cons (ps_if (pt_chain op_lt op_le pe_int (pv 2) pe_int) (pss_cons (ps_expr (pe_bm PySem.F.plainAttrs_list PySem.F.slot_list_append PySem.F.type_list_append mt_append (pv 1) (pa_cons (pe_tup (pa_cons (pv 2) (pa_cons pe_int pa_nil))) pa_nil)))
  (pss_one (ps_set (i := 2) sc__law_parts.nd rfl (Or.inl rfl) pe_int))) pss_nil)
  (pss_one (ps_ret (pe_tup (pa_cons (pv 1) (pa_cons (pv 2) pa_nil))))))))), fun ws μ R X h => ?_⟩
  obtain ⟨n, rfl, hn, hnb, hR⟩ := h
  change RS _ _ [some _, none, none, none, none, none] _ _
  (try dsimp only [cxOf])
  wtm_at "go"
  refine re_lst ?_
  wtm_at "go"
  refine dl_o (by wtm_at "sz") fun l => ?_
  wtm_at "go"
  refine rs_slot4 2 3 4 5 (fun o2 _ _ _ μ' => ∃ ps r, o2 = some (.i r) ∧ (l, HC.lst ((ps.map prD).map .dat)) :: μ = μ' ∧ ps.length ≤ 996 ∧ ((r = 1 ∨ r > 997) ∧ ppF n = (ps, r) ∨ 1 < r ∧ r ≤ 997 ∧ ppF n = (ps ++ [(r, 1)], 1))) ?_ ?_
  · refine rs_forI4 2 3 4 5 (fun i o2 _ _ _ μ' => ∃ ps r, ppI n i = (ps, r, false) ∧ o2 = some (.i r) ∧ (l, HC.lst ((ps.map prD).map .dat)) :: μ = μ') (ri_rng2 (ra_v (by wtm_at "va") ⟨2, _, rfl, by decide, ⟨_, _, _, _, rfl, rfl, rfl, rfl, [], n, rfl, rfl, rfl⟩, ?_, ?_⟩))
    · rintro i d o2 o3 o4 o5 _ hd ⟨ps, r, hI, rfl, rfl⟩
      have hi : i < 996 := by
        have := (List.getElem?_eq_some_iff.mp hd).1
        rw [rng_length] at this
        exact this
      rw [rng_at (n := ((998 : Int) - 2).toNat) hi] at hd
      cases hd
      have ok := ppI_ok hn i (by omega)
      have hrn := ppI_le hn (i := i) (by omega)
      rw [hI] at ok hrn
      have hr1 : 1 ≤ r := ok.r1
      have hln := ok.ln
      dsimp only at hln hrn
      have hst := ppI_succ n i
      rw [hI] at hst
      unfold ppS at hst
      dsimp only at hst
      rw [if_neg Bool.false_ne_true] at hst
      have fin : ∀ s, ppI n (i + 1) = s → s.2.2 = true → ppF n = (s.1, s.2.1) := fun s e h => by
        have := ppI_stop (n := n) (i := i + 1) (by rw [e]; exact h) (996 - (i + 1))
        rw [show i + 1 + (996 - (i + 1)) = 996 by omega, e] at this
        unfold ppF
        rw [this]
      refine rg_name rfl ?_
      dsimp only [List.set_cons_zero, List.set_cons_succ]
      wtm_at "go"
      refine rs_ifv (by wtm_at "vt") ?_ ?_
      · intro y; (try simp only [decide_eq_true_eq, decide_eq_false_iff_not, Bool.not_eq_true', Bool.and_eq_true, Bool.or_eq_true, Bool.not_eq_false', Bool.and_eq_false_imp, Bool.or_eq_false_iff, Bool.not_true, Bool.not_false] at y)
        wtm_at "go"
        refine ⟨_, _, _, _, rfl, ps, r, rfl, rfl, by omega, ?_⟩
        by_cases z1 : r = 1
        · rw [if_pos z1] at hst
          exact .inl ⟨.inl z1, fin _ hst rfl⟩
        rw [if_neg z1, if_pos y] at hst
        by_cases z2 : r ≤ 997
        · rw [if_pos z2] at hst
          exact .inr ⟨by omega, z2, fin _ hst rfl⟩
        · rw [if_neg z2] at hst
          exact .inl ⟨.inr (by omega), fin _ hst rfl⟩
      intro y; (try simp only [decide_eq_true_eq, decide_eq_false_iff_not, Bool.not_eq_true', Bool.and_eq_true, Bool.or_eq_true, Bool.not_eq_false', Bool.and_eq_false_imp, Bool.or_eq_false_iff, Bool.not_true, Bool.not_false] at y)
      have z1 : r ≠ 1 := fun z => by
        have h1 := Int.mul_le_mul_of_nonneg_left (show (2 : Int) ≤ 2 + (i : Int) by omega) (show 0 ≤ 2 + (i : Int) by omega)
        omega
      rw [if_neg z1, if_neg y] at hst
      wtm_at "go"
      obtain ⟨s1, s2⟩ := splF_ok (p := 2 + (i : Int)) (n := r) (by omega) (by omega)
      have hke : (splF (2 + (i : Int)) r).1 ≤ 8000 := by
        have h2 := pow_bits (n := r) (e := (splF (2 + (i : Int)) r).1) hr1 (show 2 ≤ 2 + (i : Int) by omega) ⟨_, s1⟩
        have h3 := bits_le (hnb.le (i := r) (by omega))
        omega
      obtain ⟨ke, hk⟩ : ∃ ke, ke = (splF (2 + (i : Int)) r).1 := ⟨_, rfl⟩
      obtain ⟨re, hre⟩ : ∃ re, re = (splF (2 + (i : Int)) r).2 := ⟨_, rfl⟩
      rw [← hk, ← hre] at s1
      rw [← hre] at s2
      rw [← hk] at hke
      have hp0 : 0 < 2 + (i : Int) := by omega
      have re1 : 1 ≤ re := by
        have hP2 := pow_one_le (show 2 ≤ 2 + (i : Int) by omega) ke
        rcases Int.lt_or_le re 1 with y | y
        · have := Int.mul_le_mul_of_nonneg_left (show re ≤ 0 by omega) (show 0 ≤ (2 + (i : Int)) ^ ke by omega)
          rw [Int.mul_zero, ← s1] at this
          omega
        · exact y
      have hpb : Bd 10 (2 + (i : Int)) := ⟨by omega⟩
      refine rs_slot3 2 4 5 (fun o2 o4 _ μ' => o2 = some (.i re) ∧ o4 = some (.i (ke : Int)) ∧ (l, HC.lst ((ps.map prD).map .dat)) :: μ = μ') ?_ ?_
      · refine rs_forI3 2 4 5 (fun k o2 o4 _ μ' => k ≤ ke ∧ o2 = some (.i ((2 + (i : Int)) ^ (ke - k) * re)) ∧ o4 = some (.i (k : Int)) ∧ (l, HC.lst ((ps.map prD).map .dat)) :: μ = μ') (ri_rng1 (ra_v (by wtm_at "va") ⟨20000, rfl, by decide, by decide, ⟨_, _, _, rfl, rfl, rfl, Nat.zero_le _, by rw [Nat.sub_zero, ← s1], rfl, rfl⟩, ?_, ?_⟩))
        · rintro k d o2 o4 o5 _ hd ⟨hkk, rfl, rfl, rfl⟩
          obtain ⟨lf, hlf⟩ : ∃ lf, lf = (2 + (i : Int)) ^ (ke - k) * re := ⟨_, rfl⟩
          rw [← hlf]
          have hP := pow_one_le (show 2 ≤ 2 + (i : Int) by omega) (ke - k)
          have h1 : lf ∣ r := ⟨(2 + (i : Int)) ^ k, by
            have e1 : (2 + (i : Int)) ^ ke = (2 + (i : Int)) ^ (ke - k) * (2 + (i : Int)) ^ k := by rw [← Int.pow_add, Nat.sub_add_cancel hkk]
            rw [hlf, s1, e1, Int.mul_assoc, Int.mul_assoc, Int.mul_comm re]⟩
          have h2 := Int.le_of_dvd (show 0 < r by omega) h1
          have h3 : 0 < lf := by rw [hlf]; exact Int.mul_pos (by omega) (by omega)
          have hlfb : Bd 8000 lf := hnb.le (by omega)
          refine rg_name rfl ?_
          dsimp only [List.set_cons_zero, List.set_cons_succ]
          wtm_at "go"
          refine rs_ifv (by wtm_at "vt") ?_ ?_
          · intro z; (try simp only [decide_eq_true_eq, decide_eq_false_iff_not, Bool.not_eq_true', Bool.and_eq_true, Bool.or_eq_true, Bool.not_eq_false', Bool.and_eq_false_imp, Bool.or_eq_false_iff, Bool.not_true, Bool.not_false] at z)
            wtm_at "go"
            have e : ke - k = 0 := by
              rcases Nat.eq_zero_or_pos (ke - k) with w | w
              · exact w
              · exfalso
                apply z
                rw [hlf]
                exact Int.emod_eq_zero_of_dvd (Int.dvd_mul_of_dvd_left (pow_dvd1 _ w))
            rw [e, Int.pow_zero, Int.one_mul] at hlf
            have ek : k = ke := by omega
            subst hlf ek
            exact ⟨_, _, _, rfl, rfl, rfl, rfl⟩
          · intro z; (try simp only [decide_eq_true_eq, decide_eq_false_iff_not, Bool.not_eq_true', Bool.and_eq_true, Bool.or_eq_true, Bool.not_eq_false', Bool.and_eq_false_imp, Bool.or_eq_false_iff, Bool.not_true, Bool.not_false] at z)
            have hpos : 0 < ke - k := by
              rcases Nat.eq_zero_or_pos (ke - k) with w | w
              · rw [w, Int.pow_zero, Int.one_mul] at hlf
                rw [hlf] at z
                exact (s2 (Int.dvd_of_emod_eq_zero z)).elim
              · exact w
            have hc : CDivW lf (2 + (i : Int)) := cdivw (by omega) hpb (by decide)
            wtm_at "go"
            refine ⟨_, _, _, rfl, by omega, ?_, rfl, rfl⟩
            rw [hlf, show ke - k = (ke - (k + 1)) + 1 by omega, Int.pow_succ, Int.mul_comm _ (2 + (i : Int)), Int.mul_assoc, Int.mul_ediv_cancel_left _ (by omega)]
        · rintro o2 o4 o5 _ ⟨h1, _⟩
          rw [rng_length] at h1
          exfalso
          have : (20000 : Int).toNat = 20000 := rfl
          omega
      rintro o2' o4' o5' _ ⟨rfl, rfl, rfl⟩
      dsimp only [List.set_cons_zero, List.set_cons_succ]
      wtm_at "go"
      refine rs_ifv (by wtm_at "vt") ?_ ?_
      · intro z; (try simp only [decide_eq_true_eq, decide_eq_false_iff_not, Bool.not_eq_true', Bool.and_eq_true, Bool.or_eq_true, Bool.not_eq_false', Bool.and_eq_false_imp, Bool.or_eq_false_iff, Bool.not_true, Bool.not_false] at z)
        have hz : r % (2 + (i : Int)) = 0 := Int.emod_eq_zero_of_dvd ⟨(2 + (i : Int)) ^ (ke - 1) * re, by rw [← Int.mul_assoc, Int.mul_comm (2 + (i : Int)), ← Int.pow_succ, Nat.succ_eq_add_one, show ke - 1 + 1 = ke by omega]; exact s1⟩
        rw [if_pos hz, ← hk, ← hre] at hst
        refine rs_append (k := 0) (by wtm_at "ve") rfl ?_
        wtm_at "go"
        refine ⟨0, _, rfl, len_lt (by rw [List.length_map, List.length_map]; omega), ?_⟩
        refine ⟨_, _, _, _, rfl, _, _, hst, rfl, ?_⟩
        rw [List.map_append, List.map_append]
        rfl
      · intro z; (try simp only [decide_eq_true_eq, decide_eq_false_iff_not, Bool.not_eq_true', Bool.and_eq_true, Bool.or_eq_true, Bool.not_eq_false', Bool.and_eq_false_imp, Bool.or_eq_false_iff, Bool.not_true, Bool.not_false] at z)
        have k0 : ke = 0 := by omega
        rw [k0, Int.pow_zero, Int.one_mul] at s1
        have hz : ¬ r % (2 + (i : Int)) = 0 := fun w => s2 (by rw [← s1]; exact Int.dvd_of_emod_eq_zero w)
        rw [if_neg hz] at hst
        wtm_at "go"
        rw [← s1]
        exact ⟨_, _, _, _, rfl, _, _, hst, rfl, rfl⟩
    · rintro o2 o3 o4 o5 _ ⟨ps, r, hI, rfl, rfl⟩
      rw [rng_length] at hI
      have hI : ppI n 996 = (ps, r, false) := hI
      have e : ppF n = (ps, r) := by unfold ppF; rw [hI]
      have ok := ppI_ok hn 996 (by omega)
      rw [hI] at ok
      have hr1 : 1 ≤ r := ok.r1
      have hno := ok.no rfl
      have hln := ok.ln
      refine ⟨_, _, _, _, rfl, ps, r, rfl, rfl, hln, .inl ⟨?_, e⟩⟩
      rcases (by omega : r = 1 ∨ r > 997 ∨ (2 ≤ r ∧ r < 2 + ((996 : Nat) : Int))) with z | z | z
      · exact .inl z
      · exact .inr z
      · exact (hno r z.1 z.2 (Int.dvd_refl r)).elim
  rintro o2 o3 o4 o5 _ ⟨ps, r, rfl, rfl, hln, hcase⟩
  dsimp only [List.set_cons_zero, List.set_cons_succ]
  unfold lpD at hR
  wtm_at "nx"
  refine rs_slot 2 (fun o2 μ' => o2 = some (.i (ppF n).2) ∧ (l, HC.lst (((ppF n).1.map prD).map .dat)) :: μ = μ') ?_ ?_
  · refine rs_if ?_
    rcases hcase with ⟨z, e⟩ | ⟨z1, z2, e⟩
    · wtm_at "go"
      rw [e]
      refine ⟨fun y => ?_, fun y => ?_⟩
      · exfalso
        simp only [Bool.and_eq_true, decide_eq_true_eq] at y
        omega
      · wtm_at "go"
        exact ⟨_, rfl, rfl, rfl⟩
    · wtm_at "go"
      rw [e]
      refine ⟨fun y => ?_, fun y => ?_⟩
      · wtm_at "rs"
        refine rs_append (k := 0) (by wtm_at "ve") rfl ?_
        wtm_at "go"
        refine ⟨0, _, rfl, len_lt (by rw [List.length_map, List.length_map]; omega), ?_⟩
        wtm_at "go"
        refine ⟨_, rfl, rfl, ?_⟩
        rw [List.map_append, List.map_append]
        rfl
      · exfalso
        rw [decide_eq_true z1, decide_eq_true z2] at y
        cases y
  rintro o2 _ ⟨rfl, rfl⟩
  dsimp only [List.set_cons_zero, List.set_cons_succ]
  refine rs_ret (re_frzD ?_)
  wtm_at "go"
  exact ⟨0, l, _, _, _, rfl, rfl, .tup (.cons (.own (.head _)) (.cons (.refl _) .nil)), hR⟩

/-! _law_power: a power -/
def fs__law_power : FS := fun ws μ R _ => ∃ (b e : Int) (n : Nat), ws = [.i b, .i e] ∧ Bd n b ∧ 0 ≤ e ∧ e < 100000 ∧ n * e.toNat < 400000 ∧ n < 400000 ∧ R (.i (b ^ e.toNat)) μ
theorem pow_bd {b : Int} {n : Nat} (h : Bd n b) : ∀ k : Nat, Bd (n * k + 1) (b ^ k)
  | 0 => by
    exact ⟨by simp⟩
  | k + 1 => by
    have h1 := (pow_bd h k).mul h
    rw [Int.pow_succ]
    exact h1.up (by rw [Nat.mul_succ]; omega)
theorem fn__law_power (B : Base P w K mg base) : Fn P w K mg base "_law_power" 1 ["b", "e"] fs__law_power := by
  refine fn_mk (st := s__law_power) (gl__law_power B) (df__law_power B) sc__law_power (fun ws μ R X h => (by first | exact h.1 | (obtain ⟨_, rfl, _⟩ := h; rfl) | (obtain ⟨_, _, rfl, _⟩ := h; rfl) | (obtain ⟨_, _, _, rfl, _⟩ := h; rfl) | (obtain ⟨_, _, _, _, rfl, _⟩ := h; rfl) | (obtain ⟨_, _, _, _, _, rfl, _⟩ := h; rfl) | (obtain ⟨_, _, _, _, _, _, rfl, _⟩ := h; rfl) | (obtain ⟨_, _, _, _, _, _, _, rfl, _⟩ := h; rfl) | (obtain ⟨_, _, _, _, _, _, _, _, rfl, _⟩ := h; rfl))) (fun _ _ _ _ _ _ us hl => match us, hl with | [_, _], _ => rfl) fun cdv A outer s H E hr => ⟨_, (pss_cons (ps_set (i := 2) sc__law_power.nd rfl (Or.inl rfl) pe_int)
  (pss_cons (ps_for (passes_of rfl) rfl (pi_range1 rfl (fr_range B) (pa_cons (pv 1) pa_nil)) (pg_name (i := 3) sc__law_power.nd rfl (Or.inl rfl)) (pss_one (ps_set (i := 2) sc__law_power.nd rfl (Or.inl rfl) (pe_op op_mulW (pv 2) (pv 0)))))
  (pss_one (ps_ret (pv 2))))), fun ws μ R X h => ?_⟩
  obtain ⟨b, e, n, rfl, hb, h0, he, hn, hn2, hR⟩ := h
  change RS _ _ [some _, some _, none, none] _ _
  (try dsimp only [cxOf])
  repeat wtm_at "rs"
  refine rs_to (fun ε' μ' => ∃ k, ε' = [some (.i b), some (.i e), some (.i (b ^ e.toNat)), k] ∧ μ' = μ) ?_ ?_
  · refine rs_forR1 (fun i ε' μ' => i ≤ e.toNat ∧ ∃ k, ε' = [some (.i b), some (.i e), some (.i (b ^ i)), k] ∧ μ' = μ) (by wtm_at "va") (by omega) (by omega) ⟨by omega, none, by simp, rfl⟩ ?_ fun ε' μ' q => q.2
    rintro i ε' μ' hi ⟨_, k, rfl, rfl⟩
    have h1 := pow_bd hb i
    have h2 : n * i + 1 + n < 1000000 := by
      have : n * i ≤ n * e.toNat := Nat.mul_le_mul_left n (by omega)
      omega
    have hc : CMulW (b ^ i) b := cmulw h1 hb h2
    wtm_at "rs"
    exact ⟨by omega, some (.i (i : Int)), by rw [Int.pow_succ], rfl⟩
  · rintro ε' μ' ⟨k, rfl, rfl⟩
    wtm_at "rs"
    exact hR

/-! _law_class_list: the list of classes, frozen -/
def fs__law_class_list : FS := fun ws μ R _ => ∃ (p : Int) (j : Nat), ws = [.i p, .i (j : Int)] ∧ OkP p ∧ p ^ j ≤ 2000 ∧ j ≤ 64 ∧ R (.dat (.lst ((clsL p j).map prD))) μ
theorem pow_one_zero {p : Int} (hp : 2 ≤ p) {j : Nat} (h : p ^ j = 1) : j = 0 := by
  rcases Nat.eq_zero_or_pos j with z | z
  · exact z
  · have h1 : p ∣ p ^ j := pow_dvd1 p z
    rw [h] at h1
    have := Int.le_of_dvd (by decide) h1
    omega
theorem fn__law_class_list (B : Base P w K mg base) : Fn P w K mg base "_law_class_list" 4 ["p", "j"] fs__law_class_list := by
  have F__law_power := fn__law_power B
  refine fn_mk (st := s__law_class_list) (gl__law_class_list B) (df__law_class_list B) sc__law_class_list (fun ws μ R X h => (by first | exact h.1 | (obtain ⟨_, rfl, _⟩ := h; rfl) | (obtain ⟨_, _, rfl, _⟩ := h; rfl) | (obtain ⟨_, _, _, rfl, _⟩ := h; rfl) | (obtain ⟨_, _, _, _, rfl, _⟩ := h; rfl) | (obtain ⟨_, _, _, _, _, rfl, _⟩ := h; rfl) | (obtain ⟨_, _, _, _, _, _, rfl, _⟩ := h; rfl) | (obtain ⟨_, _, _, _, _, _, _, rfl, _⟩ := h; rfl) | (obtain ⟨_, _, _, _, _, _, _, _, rfl, _⟩ := h; rfl))) (fun _ _ _ _ _ _ us hl => match us, hl with | [_, _], _ => rfl) fun cdv A outer s H E hr => ⟨_, (pss_cons (ps_set (i := 2) sc__law_class_list.nd rfl (Or.inl rfl) (pe_fn F__law_power hr (by decide) rfl (takes_of rfl rfl rfl rfl) (pa_cons (pv 0) (pa_cons (pv 1) pa_nil))))
  (pss_cons (ps_if (pt_cmpR op_eq (pv 2) pe_int (nomark _)) (pss_one (ps_ret (pe_lst (pa_cons (pe_tup (pa_cons pe_int (pa_cons pe_int pa_nil))) pa_nil)))) pss_nil)
  (pss_one (ps_ret (pe_op op_cat (pe_lcD (own := [("r", 3)]) rfl sc__law_class_list.nd (pi_range1 rfl (fr_range B) (pa_cons (pv 2) pa_nil)) (blkOk_by (own := [("r", 3)]) (N := ["p", "j", "m", "r", "s"]) (sc := defScope s__law_class_list) (by decide +kernel)) (fun _ _ _ _ _ => (pg_name (i := 3) sc__law_class_list.nd rfl (Or.inl rfl))) (fun _ _ _ _ _ => pts_nil) (fun _ _ _ _ _ => (pe_tup (pa_cons (pv 3) (pa_cons pe_int pa_nil)))) (by intro _; rfl) (by intro _ _ _ _ _; (try dsimp only [Cx.blk, cxOf]) <;> exact rfl) (by intro _ _ _ _ _; (try dsimp only [Cx.blk, cxOf]) <;> exact rfl) (by intro _ _ _ _ _; (try dsimp only [Cx.blk, cxOf]) <;> exact rfl)) (pe_lcD (own := [("s", 4)]) rfl sc__law_class_list.nd (pi_range3 rfl (fr_range B) (pa_cons pe_int (pa_cons (pv 2) (pa_cons (pv 0) pa_nil)))) (blkOk_by (own := [("s", 4)]) (N := ["p", "j", "m", "r", "s"]) (sc := defScope s__law_class_list) (by decide +kernel)) (fun _ _ _ _ _ => (pg_name (i := 4) sc__law_class_list.nd rfl (Or.inl rfl))) (fun _ _ _ _ _ => pts_nil) (fun _ _ _ _ _ => (pe_tup (pa_cons pe_int (pa_cons (pv 4) pa_nil)))) (by intro _; rfl) (by intro _ _ _ _ _; (try dsimp only [Cx.blk, cxOf]) <;> exact rfl) (by intro _ _ _ _ _; (try dsimp only [Cx.blk, cxOf]) <;> exact rfl) (by intro _ _ _ _ _; (try dsimp only [Cx.blk, cxOf]) <;> exact rfl))))))), fun ws μ R X h => ?_⟩
  obtain ⟨p, j, rfl, hp, hP, hj, hR⟩ := h
  change RS _ _ [some _, some _, none, none, none] _ _
  (try dsimp only [cxOf])
  have hp2 : 2 ≤ p := hp.2.1
  have hP1 := pow_one_le hp2 j
  wtm_at "go"
  refine callF1 ⟨p, j, 10, rfl, hp.bd, by omega, by omega, by omega, by omega, ?_⟩
  rw [Int.toNat_natCast]
  wtm_at "go"
  refine rs_ifv (by wtm_at "vt") ?_ ?_
  · intro z; (try simp only [decide_eq_true_eq, decide_eq_false_iff_not, Bool.not_eq_true', Bool.and_eq_true, Bool.or_eq_true, Bool.not_eq_false', Bool.and_eq_false_imp, Bool.or_eq_false_iff, Bool.not_true, Bool.not_false] at z)
    have z := pow_one_zero hp2 z
    subst z
    wtm_at "go"
    wtm_at "fl"
    exact hR
  intro z; (try simp only [decide_eq_true_eq, decide_eq_false_iff_not, Bool.not_eq_true', Bool.and_eq_true, Bool.or_eq_true, Bool.not_eq_false', Bool.and_eq_false_imp, Bool.or_eq_false_iff, Bool.not_true, Bool.not_false] at z)
  have hj0 : j ≠ 0 := fun e => z (by rw [e, Int.pow_zero])
  wtm_at "rs"
  refine rs_ret (re_sub ?_)
  obtain ⟨N, hN⟩ : ∃ N : Nat, p ^ j = (N : Int) := ⟨(p ^ j).toNat, by rw [Int.toNat_of_nonneg (by omega)]⟩
  have hl1 := prog_length_le (lo := 0) (hi := p ^ j) (c := p) (by omega)
  have hl2 := prog_length_le (lo := 0) (hi := p ^ j) (c := 1) (by omega)
  wtm_at "go"
  refine re_lcN (fun d => .tup [d, .int 1]) (ri_rng1 (ra_v (by wtm_at "va") ⟨_, rfl, by omega, by omega, len_ok (by rw [rng_length]; omega), fun d hd => ?_, dl_o (len_ok (by rw [List.length_map, List.length_map, rng_length]; omega)) fun l1 => ?_⟩))
  · obtain ⟨i, _, rfl⟩ := List.mem_map.mp hd
    refine rgw_name (by decide) rfl ⟨rfl, ?_⟩
    wtm_at "go"
    exact ⟨rfl, rfl⟩
  wtm_at "go"
  refine re_lcN (fun d => .tup [.int 1, d]) (ri_rng3 (ra_v (by wtm_at "va") ⟨_, _, _, rfl, ⟨by omega, by have := hp.1; omega, by omega, by omega, by omega, by omega⟩, ?_, fun d hd => ?_, dl_o ?_ fun l2 => ?_⟩))
  · rw [rgs_prog, List.length_map]
    exact len_ok (by omega)
  · obtain ⟨i, _, rfl⟩ := List.mem_map.mp hd
    refine rgw_name (by decide) rfl ⟨rfl, ?_⟩
    wtm_at "go"
    exact ⟨rfl, rfl⟩
  · rw [rgs_prog, List.length_map, List.length_map, List.length_map]
    exact len_ok (by omega)
  have e1 : (rng 0 (p ^ j).toNat).map (fun d => D.tup [d, .int 1]) = ((prog 0 (p ^ j) 1).map fun r => (r, (1 : Int))).map prD := by
    rw [rng_prog, Int.toNat_of_nonneg (by omega), List.map_map, List.map_map]; rfl
  have e2 : (rgs 0 p (cnt 0 (p ^ j) p)).map (fun d => D.tup [.int 1, d]) = ((prog 0 (p ^ j) p).map fun r => ((1 : Int), r)).map prD := by
    rw [rgs_prog, List.map_map, List.map_map]; rfl
  rw [e1, e2]
  wtm_at "go"
  refine ro_cat (ka := 1) (kb := 0) rfl rfl ?_ ⟨_, .cons _ (.cons _ (List.Sublist.refl _)), ?_⟩
  · rw [List.length_map, List.length_map, List.length_map, List.length_map]
    exact len_ok (by omega)
  unfold clsL at hR
  rw [if_neg hj0, List.map_append] at hR
  exact hR

/-! _law_classes_modulo: the own list -/
def fs__law_classes_modulo : FS := fun ws μ R _ => ∃ n : Int, ws = [.i n] ∧ 1 ≤ n ∧ n ≤ 60 ∧ R (.dat (.lst ((clM (pf n)).map rowD))) μ
theorem clM_row2 (ps : List (Int × Int)) : ∀ i, i ≤ ps.length → ∀ row ∈ clM (ps.take i), row.length = i
  | 0, _, row, h => by
    have h : row ∈ [([] : List (Int × Int))] := h
    rw [List.mem_singleton.mp h]; rfl
  | i + 1, hi, row, h => by
    have hg : ps[i]? = some ps[i] := List.getElem?_eq_getElem (by omega)
    rw [take_snoc hg, clM_snoc] at h
    obtain ⟨r, hr, h2⟩ := List.mem_flatMap.mp h
    obtain ⟨c, _, rfl⟩ := List.mem_map.mp h2
    rw [List.length_append, clM_row2 ps i (by omega) r hr]; rfl
theorem fn__law_classes_modulo (B : Base P w K mg base) : Fn P w K mg base "_law_classes_modulo" 5 ["n"] fs__law_classes_modulo := by
  have F__law_parts := fn__law_parts B
  have F__law_class_list := fn__law_class_list B
  refine fn_mk (st := s__law_classes_modulo) (gl__law_classes_modulo B) (df__law_classes_modulo B) sc__law_classes_modulo (fun ws μ R X h => (by first | exact h.1 | (obtain ⟨_, rfl, _⟩ := h; rfl) | (obtain ⟨_, _, rfl, _⟩ := h; rfl) | (obtain ⟨_, _, _, rfl, _⟩ := h; rfl) | (obtain ⟨_, _, _, _, rfl, _⟩ := h; rfl) | (obtain ⟨_, _, _, _, _, rfl, _⟩ := h; rfl) | (obtain ⟨_, _, _, _, _, _, rfl, _⟩ := h; rfl) | (obtain ⟨_, _, _, _, _, _, _, rfl, _⟩ := h; rfl) | (obtain ⟨_, _, _, _, _, _, _, _, rfl, _⟩ := h; rfl))) (fun _ _ _ _ _ _ us hl => match us, hl with | [_], _ => rfl) fun cdv A outer s H E hr => ⟨_, (pss_cons (ps_set (i := 1) sc__law_classes_modulo.nd rfl (Or.inl rfl) (pe_lst (pa_cons (pe_tup pa_nil) pa_nil)))
  (pss_cons (ps_for (passes_of rfl) rfl (pi_list (pe_ix ix_seq (pe_fn F__law_parts hr (by decide) rfl (takes_of rfl rfl rfl rfl) (pa_cons (pv 0) pa_nil)) pe_int (fun _ _ => rfl))) (pg_name (i := 2) sc__law_classes_modulo.nd rfl (Or.inl rfl)) (pss_cons (ps_set (i := 3) sc__law_classes_modulo.nd rfl (Or.inl rfl) (pe_lst pa_nil))
  (pss_cons (ps_for (passes_of rfl) rfl (pi_list (pe_callTy cr_listOf (by rfl) (fr_list B) (by decide +kernel) (pa_cons (pv 1) pa_nil))) (pg_name (i := 4) sc__law_classes_modulo.nd rfl (Or.inl rfl)) (pss_one (ps_for (passes_of rfl) rfl (pi_list (pe_fn F__law_class_list hr (by decide) rfl (takes_of rfl rfl rfl rfl) (pa_cons (pe_ix ix_seq (pv 2) pe_int (fun _ _ => rfl)) (pa_cons (pe_ix ix_seq (pv 2) pe_int (fun _ _ => rfl)) pa_nil)))) (pg_name (i := 5) sc__law_classes_modulo.nd rfl (Or.inl rfl)) (pss_one (ps_expr (pe_bm PySem.F.plainAttrs_list PySem.F.slot_list_append PySem.F.type_list_append mt_append (pv 3) (pa_cons (pe_op op_catA (pv 4) (pe_tup (pa_cons (pv 5) pa_nil))) pa_nil)))))))
  (pss_one (ps_set (i := 1) sc__law_classes_modulo.nd rfl (Or.inl rfl) (pe_callTy cr_listOf (by rfl) (fr_list B) (by decide +kernel) (pa_cons (pv 3) pa_nil)))))))
  (pss_one (ps_ret (pv 1))))), fun ws μ R X h => ?_⟩
  obtain ⟨n, rfl, n1, n2, hR⟩ := h
  change RS _ _ [some _, none, none, none, none, none] _ _
  (try dsimp only [cxOf])
  have ok := pf_ok n1 (by omega)
  have hln := ok.l
  wtm_at "rs"
  refine rs_asg ?_
  wtm_at "fl"
  refine rs_slot5 1 2 3 4 5 (fun o _ _ _ _ μ' => o = some (.dat (.lst ((clM (pf n)).map rowD))) ∧ μ = μ') ?_ ?_
  · refine rs_forI5 1 2 3 4 5 (fun i o _ _ _ _ μ' => o = some (.dat (.lst ((clM ((pf n).take i)).map rowD))) ∧ μ = μ') (ri_list ?_)
    wtm_at "go"
    refine callF1 ⟨n, rfl, n1, Bd.up (n := 10) ⟨by omega⟩ (by decide), ?_⟩
    rw [lpD_eq n1 (by omega)]
    wtm_at "go"
    refine ⟨_, rfl, ⟨_, _, _, _, _, rfl, rfl, rfl, rfl, rfl, rfl, rfl⟩, ?_, ?_⟩
    · rintro i d o1 o2 o3 o4 o5 _ hd ⟨rfl, rfl⟩
      rw [List.getElem?_map] at hd
      obtain ⟨⟨p, e⟩, hq, rfl⟩ := Option.map_eq_some_iff.mp hd
      obtain ⟨hp, he1, he2, hdv⟩ := ok.m _ (List.mem_of_getElem? hq)
      dsimp only at hp he1 he2 hdv
      have hil := (List.getElem?_eq_some_iff.mp hq).1
      obtain ⟨a, b, c, d⟩ := pow_le900 n1 (by omega) hp.2.1 hdv
      have b1 := clM_len n1 n2 (i := i) (by omega)
      have b2 := clM_len n1 n2 (i := i + 1) (by omega)
      have hrl := clM_row2 (pf n) i (by omega)
      obtain ⟨G, hG⟩ : ∃ G : List (Int × Int) → List (List (Int × Int)), G = fun row => (clsL p e.toNat).map fun c => row ++ [c] := ⟨_, rfl⟩
      have hfin : clM ((pf n).take (i + 1)) = (clM ((pf n).take i)).flatMap G := by rw [take_snoc hq, clM_snoc, hG]
      rw [hfin] at b2 ⊢
      generalize clM ((pf n).take i) = M at b1 b2 hrl ⊢
      have hlen : ∀ k, k ≤ M.length → ((M.take k).flatMap G).length ≤ 2000 := fun k hk => by
        have e1 : M.flatMap G = (M.take k).flatMap G ++ (M.drop k).flatMap G := by rw [← List.flatMap_append, List.take_append_drop]
        rw [e1, List.length_append] at b2
        omega
      rw [show prD (p, e) = D.tup [.int p, .int e] from rfl]
      refine rg_name rfl ?_
      dsimp only [List.set_cons_zero, List.set_cons_succ]
      wtm_at "rs"
      refine rs_asg (re_lst ?_)
      wtm_at "go"
      refine dl_o (by wtm_at "sz") fun l => ?_
      wtm_at "nx"
      refine rs_slot2 4 5 (fun _ _ μ' => (l, HC.lst (((M.flatMap G).map rowD).map .dat)) :: μ = μ') ?_ ?_
      · refine rs_forI2 4 5 (fun k _ _ μ' => (l, HC.lst ((((M.take k).flatMap G).map rowD).map .dat)) :: μ = μ') (ri_list ?_)
        wtm_at "go"
        refine rc_listF rfl ⟨_, rfl, ⟨_, _, rfl, rfl, rfl⟩, ?_, ?_⟩
        · rintro k d o4 o5 _ hd rfl
          rw [List.getElem?_map] at hd
          obtain ⟨row, hrow, rfl⟩ := Option.map_eq_some_iff.mp hd
          have hkl := (List.getElem?_eq_some_iff.mp hrow).1
          have hl1 := hlen (k + 1) (by omega)
          rw [take_snoc hrow, List.flatMap_append, List.flatMap_cons, List.flatMap_nil, List.append_nil] at hl1 ⊢
          rw [List.length_append] at hl1
          have hr2 := hrl row (List.mem_of_getElem? hrow)
          refine rg_name rfl ?_
          dsimp only [List.set_cons_zero, List.set_cons_succ]
          refine rs_forI1 5 (fun t _ μ' => (l, HC.lst ((((M.take k).flatMap G ++ (G row).take t).map rowD).map .dat)) :: μ = μ') (ri_list ?_)
          wtm_at "go"
          refine callF1 ⟨p, e.toNat, by rw [Int.toNat_of_nonneg (by omega)], hp, by omega, by omega, ?_⟩
          refine ⟨_, rfl, ⟨_, rfl, by rw [List.take_zero, List.append_nil]⟩, ?_, ?_⟩
          · rintro t d o5 _ hd rfl
            rw [List.getElem?_map] at hd
            obtain ⟨c, hc, rfl⟩ := Option.map_eq_some_iff.mp hd
            have hgt : (G row)[t]? = some (row ++ [c]) := by rw [hG]; show ((clsL p e.toNat).map _)[t]? = _; rw [List.getElem?_map, hc]; rfl
            have htl := (List.getElem?_eq_some_iff.mp hgt).1
            refine rg_name rfl ?_
            dsimp only [List.set_cons_zero, List.set_cons_succ]
            refine rs_append (k := 0) (by wtm_at "ve") rfl ?_
            rw [show rowD row = D.tup (row.map prD) from rfl]
            wtm_at "go"
            refine ro_catT (len_ok (by rw [List.length_map]; show _ + 1 ≤ _; omega)) ?_
            refine ⟨0, _, rfl, len_lt (by rw [List.length_map, List.length_map, List.length_append, List.length_take]; omega), ?_⟩
            refine ⟨_, rfl, ?_⟩
            rw [take_snoc hgt, ← List.append_assoc, List.map_append, List.map_append]
            unfold rowD
            simp only [List.map_append, List.map_cons, List.map_nil]
            rfl
          · rintro o5 _ rfl
            have ht : (G row).take ((clsL p e.toNat).map prD).length = G row := List.take_of_length_le (by rw [hG]; simp only [List.length_map]; exact Nat.le_refl _)
            rw [ht]
            exact ⟨_, _, rfl, rfl⟩
        · rintro o4 o5 _ rfl
          rw [List.length_map, List.take_length]
          exact ⟨_, _, rfl, rfl⟩
      rintro o4 o5 _ rfl
      dsimp only [List.set_cons_zero, List.set_cons_succ]
      refine rs_asg (re_sub ?_)
      wtm_at "go"
      refine rc_listAF (k := 0) rfl ⟨μ, .cons _ (.refl _), rg_name rfl ?_⟩
      exact ⟨_, _, _, _, _, rfl, rfl, rfl⟩
    · rintro o1 o2 o3 o4 o5 _ ⟨rfl, rfl⟩
      rw [List.length_map, List.take_length]
      exact ⟨_, _, _, _, _, rfl, rfl, rfl⟩
  rintro o1 o2 o3 o4 o5 _ ⟨rfl, rfl⟩
  dsimp only [List.set_cons_zero, List.set_cons_succ]
  wtm_at "go"
  exact hR

/-! check_modulus: from 1 to the greatest -/
def fs_check_modulus (K : PySem.W.Frag) : FS := fun ws μ R X => ∃ (name : Str) (n g : Int), ws = [.s name, .i n, .i g] ∧ (n < 1 ∨ n > g → X (.ref (He.ga K "OutOfRange")) [("name", .str name)] μ) ∧ (1 ≤ n → n ≤ g → R .n μ)
theorem fn_check_modulus (B : Base P w K mg base) : Fn P w K mg base "check_modulus" 3 ["name", "n", "greatest"] (fs_check_modulus K) := by
  refine fn_mk (st := s_check_modulus) (gl_check_modulus B) (df_check_modulus B) sc_check_modulus (fun ws μ R X h => (by first | exact h.1 | (obtain ⟨_, rfl, _⟩ := h; rfl) | (obtain ⟨_, _, rfl, _⟩ := h; rfl) | (obtain ⟨_, _, _, rfl, _⟩ := h; rfl) | (obtain ⟨_, _, _, _, rfl, _⟩ := h; rfl) | (obtain ⟨_, _, _, _, _, rfl, _⟩ := h; rfl) | (obtain ⟨_, _, _, _, _, _, rfl, _⟩ := h; rfl) | (obtain ⟨_, _, _, _, _, _, _, rfl, _⟩ := h; rfl) | (obtain ⟨_, _, _, _, _, _, _, _, rfl, _⟩ := h; rfl))) (fun _ _ _ _ _ _ us hl => match us, hl with | [_, _, _], _ => rfl) fun cdv A outer s H E hr => ⟨_, (pss_one (ps_if (PW.pt (pw_or (pt_cmpR op_lt (pv 1) pe_int (nomark _)) (pw_or1 (pt_cmpR op_gt (pv 1) (pv 2) (nomark _))))) (pss_one (ps_raise1 (xc_OutOfRange B) rfl (takes_of rfl rfl rfl rfl) hr (by decide) rfl (pa_cons (pv 0) pa_nil))) pss_nil)), fun ws μ R X h => ?_⟩
  obtain ⟨name, n, g, rfl, hX, hR⟩ := h
  change RS _ _ [some _, some _, some _] _ _
  (try dsimp only [cxOf])
  wtm_at "go"
  refine rs_ifv (by wtm_at "vt") ?_ ?_
  · intro z; (try simp only [decide_eq_true_eq, decide_eq_false_iff_not, Bool.not_eq_true', Bool.and_eq_true, Bool.or_eq_true, Bool.not_eq_false', Bool.and_eq_false_imp, Bool.or_eq_false_iff, Bool.not_true, Bool.not_false] at z)
    refine rs_raise1 (xc_OutOfRange B).ox (xc_OutOfRange B).no ?_
    wtm_at "go"
    exact ⟨_, rfl, hX z⟩
  intro z; (try simp only [decide_eq_true_eq, decide_eq_false_iff_not, Bool.not_eq_true', Bool.and_eq_true, Bool.or_eq_true, Bool.not_eq_false', Bool.and_eq_false_imp, Bool.or_eq_false_iff, Bool.not_true, Bool.not_false] at z)
  wtm_at "go"
  exact hR (by omega) (by omega)

/-! greatest_divisor: the greatest common divisor -/
def fs_greatest_divisor : FS := fun ws μ R _ => ∃ a b : Int, ws = [.i a, .i b] ∧ R (.i (Int.gcd a b : Nat)) μ
theorem fn_greatest_divisor (B : Base P w K mg base) : Fn P w K mg base "greatest_divisor" 1 ["a", "b"] fs_greatest_divisor := by
  refine fn_mk (st := s_greatest_divisor) (gl_greatest_divisor B) (df_greatest_divisor B) sc_greatest_divisor (fun ws μ R X h => (by first | exact h.1 | (obtain ⟨_, rfl, _⟩ := h; rfl) | (obtain ⟨_, _, rfl, _⟩ := h; rfl) | (obtain ⟨_, _, _, rfl, _⟩ := h; rfl) | (obtain ⟨_, _, _, _, rfl, _⟩ := h; rfl) | (obtain ⟨_, _, _, _, _, rfl, _⟩ := h; rfl) | (obtain ⟨_, _, _, _, _, _, rfl, _⟩ := h; rfl) | (obtain ⟨_, _, _, _, _, _, _, rfl, _⟩ := h; rfl) | (obtain ⟨_, _, _, _, _, _, _, _, rfl, _⟩ := h; rfl))) (fun _ _ _ _ _ _ us hl => match us, hl with | [_, _], _ => rfl) fun cdv A outer s H E hr => ⟨_, (pss_cons (ps_set (i := 2) sc_greatest_divisor.nd rfl (Or.inl rfl) (pe_callB cr_abs (by rfl) (fr_abs B) (by decide +kernel) (pa_cons (pv 0) pa_nil)))
  (pss_cons (ps_set (i := 3) sc_greatest_divisor.nd rfl (Or.inl rfl) (pe_callB cr_abs (by rfl) (fr_abs B) (by decide +kernel) (pa_cons (pv 1) pa_nil)))
  (pss_cons (ps_while (passes_of rfl) (pt_cmpR op_ne (pv 3) pe_int (nomark _)) (pss_one (ps_par (i := 2) (j := 3) (by rfl) sc_greatest_divisor.nd rfl rfl (by decide) rfl rfl (pa_cons (pv 3) (pa_cons (pe_op op_mod (pv 2) (pv 3)) pa_nil)) (by rfl))))
  (pss_one (ps_ret (pv 2)))))), fun ws μ R X h => ?_⟩
  obtain ⟨a, b, rfl, hR⟩ := h
  change RS _ _ [some _, some _, none, none] _ _
  (try dsimp only [cxOf])
  repeat wtm_at "rs"
  refine rs_while (fun k ε' μ' => ∃ m n : Nat, n = k ∧ ε' = [some (.i a), some (.i b), some (.i m), some (.i n)] ∧ μ' = μ ∧ Nat.gcd m n = Int.gcd a b) b.natAbs ⟨a.natAbs, b.natAbs, rfl, rfl, rfl, rfl⟩ ?_
  rintro k ε' μ' ⟨m, n, rfl, rfl, rfl, hg⟩
  refine ⟨_, by wtm_at "vt", ?_, ?_⟩
  · intro hb; (try simp only [decide_eq_true_eq, decide_eq_false_iff_not, Bool.not_eq_true', Bool.and_eq_true, Bool.or_eq_true, Bool.not_eq_false', Bool.and_eq_false_imp, Bool.or_eq_false_iff, Bool.not_true, Bool.not_false] at hb)
    wtm_at "rs"
    refine ⟨m % n, Nat.mod_lt m (by omega), n, m % n, rfl, rfl, rfl, ?_⟩
    rw [Nat.gcd_comm, ← Nat.gcd_rec, Nat.gcd_comm]
    exact hg
  · intro hb; (try simp only [decide_eq_true_eq, decide_eq_false_iff_not, Bool.not_eq_true', Bool.and_eq_true, Bool.or_eq_true, Bool.not_eq_false', Bool.and_eq_false_imp, Bool.or_eq_false_iff, Bool.not_true, Bool.not_false] at hb)
    wtm_at "rs"
    have e : n = 0 := by omega
    subst e
    rw [Nat.gcd_zero_right] at hg
    rw [hg]
    exact hR

/-! lowest: the fraction x / y in lowest terms -/
def fs_lowest (K : PySem.W.Frag) : FS := fun ws μ R X => ∃ x y : Int, ws = [.i x, .i y] ∧ Bd 8000 x ∧ Bd 8000 y ∧ (x = 0 ∧ y = 0 → X (.ref (He.ga K "NoFraction")) [] μ) ∧ (¬ (x = 0 ∧ y = 0) → R (.dat (lowD x y)) μ)
theorem fn_lowest (B : Base P w K mg base) : Fn P w K mg base "lowest" 2 ["x", "y"] (fs_lowest K) := by
  have F_greatest_divisor := fn_greatest_divisor B
  refine fn_mk (st := s_lowest) (gl_lowest B) (df_lowest B) sc_lowest (fun ws μ R X h => (by first | exact h.1 | (obtain ⟨_, rfl, _⟩ := h; rfl) | (obtain ⟨_, _, rfl, _⟩ := h; rfl) | (obtain ⟨_, _, _, rfl, _⟩ := h; rfl) | (obtain ⟨_, _, _, _, rfl, _⟩ := h; rfl) | (obtain ⟨_, _, _, _, _, rfl, _⟩ := h; rfl) | (obtain ⟨_, _, _, _, _, _, rfl, _⟩ := h; rfl) | (obtain ⟨_, _, _, _, _, _, _, rfl, _⟩ := h; rfl) | (obtain ⟨_, _, _, _, _, _, _, _, rfl, _⟩ := h; rfl))) (fun _ _ _ _ _ _ us hl => match us, hl with | [_, _], _ => rfl) fun cdv A outer s H E hr => ⟨_, (pss_cons (ps_if (PW.pt (pw_and (pt_cmpR op_eq (pv 0) pe_int (nomark _)) (pw_and1 (pt_cmpR op_eq (pv 1) pe_int (nomark _))))) (pss_one (ps_raise0 rfl (takes_of rfl rfl rfl rfl) (ex_NoFraction B).1 (gl_NoFraction B) (ex_NoFraction B).2.1 (ex_NoFraction B).2.2.1 (ex_NoFraction B).2.2.2 rfl)) pss_nil)
  (pss_cons (ps_set (i := 2) sc_lowest.nd rfl (Or.inl rfl) (pe_fn F_greatest_divisor hr (by decide) rfl (takes_of rfl rfl rfl rfl) (pa_cons (pv 0) (pa_cons (pv 1) pa_nil))))
  (pss_cons (ps_if (PW.pt (pw_or (pt_cmpR op_lt (pv 1) pe_int (nomark _)) (pw_or1 (PW.pt (pw_and (pt_cmpR op_eq (pv 1) pe_int (nomark _)) (pw_and1 (pt_cmpR op_lt (pv 0) pe_int (nomark _)))))))) (pss_one (ps_set (i := 2) sc_lowest.nd rfl (Or.inl rfl) (pe_un un_neg (pv 2)))) pss_nil)
  (pss_one (ps_ret (pe_tup (pa_cons (pe_op op_fdivX (pv 0) (pv 2)) (pa_cons (pe_op op_fdivX (pv 1) (pv 2)) pa_nil)))))))), fun ws μ R X h => ?_⟩
  obtain ⟨x, y, rfl, hx, hy, hX, hR⟩ := h
  change RS _ _ [some _, some _, none] _ _
  (try dsimp only [cxOf])
  wtm_at "rs"
  refine rs_ifv (by wtm_at "vt") ?_ ?_
  · intro hb; (try simp only [decide_eq_true_eq, decide_eq_false_iff_not, Bool.not_eq_true', Bool.and_eq_true, Bool.or_eq_true, Bool.not_eq_false', Bool.and_eq_false_imp, Bool.or_eq_false_iff, Bool.not_true, Bool.not_false] at hb)
    exact rs_raise0 (hX hb)
  intro hb; (try simp only [decide_eq_true_eq, decide_eq_false_iff_not, Bool.not_eq_true', Bool.and_eq_true, Bool.or_eq_true, Bool.not_eq_false', Bool.and_eq_false_imp, Bool.or_eq_false_iff, Bool.not_true, Bool.not_false] at hb)
  have h0 : ¬ (x = 0 ∧ y = 0) := fun z => hb z.1 z.2
  have hg := gcd_pos h0
  have hgb := gcd_bd hx hy
  wtm_at "rs"
  wtm_at "rs"
  refine rs_asg (re_call (ra_v (by wtm_at "va") (callF0 ⟨x, y, rfl, rg_name rfl ?_⟩)))
  rw [List.append_nil]
  dsimp only [List.set_cons_zero, List.set_cons_succ]
  wtm_at "rs"
  refine rs_to (fun ε' μ' => ε' = [some (.i x), some (.i y), some (.i (sgd x y))] ∧ μ' = μ) ?_ ?_
  · refine rs_ifv (by wtm_at "vt") ?_ ?_
    · intro hb; (try simp only [decide_eq_true_eq, decide_eq_false_iff_not, Bool.not_eq_true', Bool.and_eq_true, Bool.or_eq_true, Bool.not_eq_false', Bool.and_eq_false_imp, Bool.or_eq_false_iff, Bool.not_true, Bool.not_false] at hb)
      wtm_at "rs"
      refine ⟨?_, rfl⟩
      rw [sgd, if_pos hb]
    · intro hb; (try simp only [decide_eq_true_eq, decide_eq_false_iff_not, Bool.not_eq_true', Bool.and_eq_true, Bool.or_eq_true, Bool.not_eq_false', Bool.and_eq_false_imp, Bool.or_eq_false_iff, Bool.not_true, Bool.not_false] at hb)
      wtm_at "rs"
      refine ⟨?_, rfl⟩
      rw [sgd, if_neg (by omega)]
  rintro ε' μ' ⟨rfl, rfl⟩
  have hs0 : sgd x y ≠ 0 := by
    unfold sgd
    split <;> omega
  have hsb : Bd 8000 (sgd x y) := by
    unfold sgd
    split
    · exact hgb.neg
    · exact hgb
  refine rs_ret (re_tup (ra_v (by wtm_at "va") ⟨_, rfl, by wtm_at "sz", hR h0⟩))

/-! raised: a power -/
def fs_raised (K : PySem.W.Frag) : FS := fun ws μ R X => ∃ (b e : Int) (m : Nat), ws = [.i b, .i e] ∧ Bd m b ∧ (e < 0 ∨ e > 1000 → X (.ref (He.ga K "OutOfRange")) [("name", .str "e")] μ) ∧ (0 ≤ e → e ≤ 1000 → m * e.toNat ≤ 400000 ∧ R (.i (b ^ e.toNat)) μ)
theorem fn_raised (B : Base P w K mg base) : Fn P w K mg base "raised" 3 ["b", "e"] (fs_raised K) := by
  refine fn_mk (st := s_raised) (gl_raised B) (df_raised B) sc_raised (fun ws μ R X h => (by first | exact h.1 | (obtain ⟨_, rfl, _⟩ := h; rfl) | (obtain ⟨_, _, rfl, _⟩ := h; rfl) | (obtain ⟨_, _, _, rfl, _⟩ := h; rfl) | (obtain ⟨_, _, _, _, rfl, _⟩ := h; rfl) | (obtain ⟨_, _, _, _, _, rfl, _⟩ := h; rfl) | (obtain ⟨_, _, _, _, _, _, rfl, _⟩ := h; rfl) | (obtain ⟨_, _, _, _, _, _, _, rfl, _⟩ := h; rfl) | (obtain ⟨_, _, _, _, _, _, _, _, rfl, _⟩ := h; rfl))) (fun _ _ _ _ _ _ us hl => match us, hl with | [_, _], _ => rfl) fun cdv A outer s H E hr => ⟨_, (pss_cons (ps_if (PW.pt (pw_or (pt_cmpR op_lt (pv 1) pe_int (nomark _)) (pw_or1 (pt_cmpR op_gt (pv 1) (pe_gi (ct_GREATEST_EXPONENT B)) (nomark _))))) (pss_one (ps_raise1 (xc_OutOfRange B) rfl (takes_of rfl rfl rfl rfl) hr (by decide) rfl (pa_cons pe_str pa_nil))) pss_nil)
  (pss_cons (ps_set (i := 2) sc_raised.nd rfl (Or.inl rfl) pe_int)
  (pss_cons (ps_set (i := 3) sc_raised.nd rfl (Or.inl rfl) (pv 0))
  (pss_cons (ps_set (i := 4) sc_raised.nd rfl (Or.inl rfl) (pv 1))
  (pss_cons (ps_while (passes_of rfl) (pt_cmpR op_gt (pv 4) pe_int (nomark _)) (pss_cons (ps_if (pt_cmpR op_eq (pe_op op_mod (pv 4) pe_int) pe_int (nomark _)) (pss_one (ps_set (i := 2) sc_raised.nd rfl (Or.inl rfl) (pe_op op_mulW (pv 2) (pv 3)))) pss_nil)
  (pss_cons (ps_set (i := 4) sc_raised.nd rfl (Or.inl rfl) (pe_op op_fdiv (pv 4) pe_int))
  (pss_one (ps_if (pt_cmpR op_gt (pv 4) pe_int (nomark _)) (pss_one (ps_set (i := 3) sc_raised.nd rfl (Or.inl rfl) (pe_op op_mulW (pv 3) (pv 3)))) pss_nil)))))
  (pss_one (ps_ret (pv 2)))))))), fun ws μ R X h => ?_⟩
  obtain ⟨b, e, m, rfl, hb, hX, hR⟩ := h
  change RS _ _ [some _, some _, none, none, none] _ _
  (try dsimp only [cxOf])
  wtm_at "go"
  refine rs_ifv (by wtm_at "vt") ?_ ?_
  · intro z; (try simp only [decide_eq_true_eq, decide_eq_false_iff_not, Bool.not_eq_true', Bool.and_eq_true, Bool.or_eq_true, Bool.not_eq_false', Bool.and_eq_false_imp, Bool.or_eq_false_iff, Bool.not_true, Bool.not_false] at z)
    refine rs_raise1 (xc_OutOfRange B).ox (xc_OutOfRange B).no ?_
    wtm_at "go"
    exact ⟨_, rfl, hX z⟩
  intro z; (try simp only [decide_eq_true_eq, decide_eq_false_iff_not, Bool.not_eq_true', Bool.and_eq_true, Bool.or_eq_true, Bool.not_eq_false', Bool.and_eq_false_imp, Bool.or_eq_false_iff, Bool.not_true, Bool.not_false] at z)
  obtain ⟨hme, hR⟩ := hR (by omega) (by omega)
  obtain ⟨n, rfl⟩ := Int.eq_ofNat_of_zero_le (show 0 ≤ e by omega)
  rw [Int.toNat_natCast] at hme hR
  have hpw : ∀ i, i ≤ n → Bd 400001 (b ^ i) := fun i hi => (hb.pow i).up (by have := Nat.mul_le_mul_left m hi; omega)
  wtm_at "go"
  refine rs_to (fun ε' μ' => ∃ o l, ε' = [some (.i b), some (.i (n : Int)), some (.i (b ^ n)), o, l] ∧ μ' = μ) ?_ ?_
  · refine rs_while (fun mm ε' μ' => ∃ (i j l : Nat) (sq : Int), ε' = [some (.i b), some (.i (n : Int)), some (.i (b ^ i)), some (.i sq), some (.i (l : Int))] ∧ μ' = μ ∧ l = mm ∧ i + j * l = n ∧ 1 ≤ j ∧ (0 < l → sq = b ^ j)) n ⟨0, 1, n, b, by simp, rfl, rfl, by omega, by omega, fun _ => (Int.pow_one b).symm⟩ ?_
    rintro mm ε' μ' ⟨i, j, l, sq, rfl, rfl, rfl, hE, hj, hsq⟩
    refine ⟨_, by wtm_at "vt", fun z => ?_, fun z => ?_⟩
    · have hl : 0 < l := by simpa using z
      have e1 := hsq hl
      subst e1
      have hjl : j * 1 ≤ j * l := Nat.mul_le_mul_left j hl
      have hbi := hpw i (by omega)
      have hbj := hpw j (by omega)
      wtm_at "go"
      refine rs_to (fun ε'' μ'' => ∃ i' : Nat, ε'' = [some (.i b), some (.i (n : Int)), some (.i (b ^ i')), some (.i (b ^ j)), some (.i (l : Int))] ∧ μ'' = μ' ∧ i' + j * (2 * (l / 2)) = n) ?_ ?_
      · refine rs_ifv (by wtm_at "vt") (fun q => ?_) (fun q => ?_)
        · have q1 : l % 2 = 1 := by have := of_decide_eq_true q; omega
          have hc : CMulW (b ^ i) (b ^ j) := cmulw hbi hbj (by omega)
          wtm_at "go"
          refine ⟨i + j, by rw [Int.pow_add], rfl, ?_⟩
          have e2 : l = 2 * (l / 2) + 1 := by omega
          have e3 : j * l = j * (2 * (l / 2)) + j := by rw [← Nat.mul_succ, Nat.succ_eq_add_one, ← e2]
          omega
        · have q1 : l % 2 = 0 := by have := of_decide_eq_false q; omega
          wtm_at "go"
          refine ⟨i, rfl, rfl, ?_⟩
          have e2 : l = 2 * (l / 2) := by omega
          rw [← e2]; exact hE
      rintro _ _ ⟨i', rfl, rfl, hE'⟩
      have e4 : j * (2 * (l / 2)) = (j + j) * (l / 2) := by grind
      wtm_at "go"
      refine rs_ifv (by wtm_at "vt") (fun q => ?_) (fun q => ?_)
      · have hc : CMulW (b ^ j) (b ^ j) := cmulw hbj hbj (by omega)
        wtm_at "go"
        exact ⟨l / 2, by omega, i', j + j, l / 2, _, rfl, rfl, rfl, by omega, by omega, fun _ => by rw [Int.pow_add]⟩
      · have q1 : l / 2 = 0 := by have := of_decide_eq_false q; omega
        wtm_at "go"
        exact ⟨l / 2, by omega, i', j + j, l / 2, _, rfl, rfl, rfl, by omega, by omega, fun z => by omega⟩
    · have hl : l = 0 := by simpa using z
      subst hl
      have : i = n := by omega
      subst this
      exact ⟨_, _, rfl, rfl⟩
  rintro ε' μ' ⟨o, l, rfl, rfl⟩
  wtm_at "go"
  exact hR

/-! inverse_modulo: by Euclid -/
def fs_inverse_modulo : FS := fun ws μ R _ => ∃ a m : Int, ws = [.i a, .i m] ∧ 1 ≤ m ∧ Bd 8900 m ∧ Int.gcd m a = 1 ∧ ∀ t : Int, 0 ≤ t → t < m → m ∣ t * a - 1 → R (.i t) μ
theorem fn_inverse_modulo (B : Base P w K mg base) : Fn P w K mg base "inverse_modulo" 1 ["a", "m"] fs_inverse_modulo := by
  refine fn_mk (st := s_inverse_modulo) (gl_inverse_modulo B) (df_inverse_modulo B) sc_inverse_modulo (fun ws μ R X h => (by first | exact h.1 | (obtain ⟨_, rfl, _⟩ := h; rfl) | (obtain ⟨_, _, rfl, _⟩ := h; rfl) | (obtain ⟨_, _, _, rfl, _⟩ := h; rfl) | (obtain ⟨_, _, _, _, rfl, _⟩ := h; rfl) | (obtain ⟨_, _, _, _, _, rfl, _⟩ := h; rfl) | (obtain ⟨_, _, _, _, _, _, rfl, _⟩ := h; rfl) | (obtain ⟨_, _, _, _, _, _, _, rfl, _⟩ := h; rfl) | (obtain ⟨_, _, _, _, _, _, _, _, rfl, _⟩ := h; rfl))) (fun _ _ _ _ _ _ us hl => match us, hl with | [_, _], _ => rfl) fun cdv A outer s H E hr => ⟨_, (pss_cons (ps_par (i := 2) (j := 3) (by rfl) sc_inverse_modulo.nd rfl rfl (by decide) rfl rfl (pa_cons (pv 1) (pa_cons (pe_op op_mod (pv 0) (pv 1)) pa_nil)) (by rfl))
  (pss_cons (ps_asg (pe_tup (pa_cons pe_int (pa_cons pe_int pa_nil))) (pg_tup (n := 2) (by rfl) (pgs_cons (pg_name (i := 4) sc_inverse_modulo.nd rfl (Or.inl rfl)) (pgs_cons (pg_name (i := 5) sc_inverse_modulo.nd rfl (Or.inl rfl)) pgs_nil))))
  (pss_cons (ps_while (passes_of rfl) (pt_cmpR op_ne (pv 3) pe_int (nomark _)) (pss_cons (ps_set (i := 6) sc_inverse_modulo.nd rfl (Or.inl rfl) (pe_op op_fdivW (pv 2) (pv 3)))
  (pss_cons (ps_par (i := 2) (j := 3) (by rfl) sc_inverse_modulo.nd rfl rfl (by decide) rfl rfl (pa_cons (pv 3) (pa_cons (pe_op op_sub (pv 2) (pe_op op_mulW (pv 6) (pv 3))) pa_nil)) (by rfl))
  (pss_one (ps_par (i := 4) (j := 5) (by rfl) sc_inverse_modulo.nd rfl rfl (by decide) rfl rfl (pa_cons (pv 5) (pa_cons (pe_op op_sub (pv 4) (pe_op op_mulW (pv 6) (pv 5))) pa_nil)) (by rfl))))))
  (pss_one (ps_ret (pe_op op_mod (pv 4) (pv 1))))))), fun ws μ R X h => ?_⟩
  obtain ⟨a, m, rfl, hm, hb, hg, hR⟩ := h
  change RS _ _ [some _, some _, none, none, none, none, none] _ _
  (try dsimp only [cxOf])
  wtm_at "go"
  refine rg_tup (ds := [.int 0, .int 1]) rfl (rgs_cons (rg_name rfl (rgs_cons (rg_name rfl (rgs_nil ?_)))))
  dsimp only [List.set_cons_zero, List.set_cons_succ]
  wtm_at "go"
  refine rs_to (fun ε' μ' => ∃ high before now o, [some (.i a), some (.i m), some (.i high), some (.i 0), some (.i before), some (.i now), o] = ε' ∧ μ = μ' ∧ Inv2 a m high 0 before now) ?_ ?_
  · refine rs_while (fun k ε' μ' => ∃ high low before now o, [some (.i a), some (.i m), some (.i high), some (.i low), some (.i before), some (.i now), o] = ε' ∧ μ = μ' ∧ Inv2 a m high low before now ∧ k = low.toNat) _ ⟨m, a % m, 0, 1, none, rfl, rfl, Inv2.start hm, rfl⟩ ?_
    rintro k ε' μ' ⟨high, low, before, now, o, rfl, rfl, hI, rfl⟩
    refine ⟨_, by wtm_at "vt", fun z => ?_, fun z => ?_⟩
    · have z : low ≠ 0 := by simpa using z
      have l0 := hI.l0
      have lh := hI.lh
      have hmm := hI.hb
      have lb : Bd 8900 low := hb.le (by omega)
      have hib : Bd 8900 high := hb.le (by omega)
      have nb : Bd 8900 now := hb.le hI.nb
      have hd : CDivW high low := cdivw (by omega) lb (by decide)
      have q0 : 0 ≤ high / low := Int.ediv_nonneg (by omega) l0
      have q1 : high / low ≤ high := Int.ediv_le_self _ (by omega)
      have qb : Bd 8900 (high / low) := hb.le (by omega)
      have hc1 : CMulW (high / low) low := cmulw qb lb (by decide)
      have hc2 : CMulW (high / low) now := cmulw qb nb (by decide)
      have hn := hI.next z
      have hl2 := hn.lh
      have hl3 := hn.l0
      wtm_at "go"
      exact ⟨_, by omega, low, _, now, _, _, rfl, rfl, hn, rfl⟩
    · have z : low = 0 := by simpa using z
      subst z
      exact ⟨_, _, _, _, rfl, rfl, hI⟩
  rintro ε' μ' ⟨high, before, now, o, rfl, rfl, hI⟩
  wtm_at "go"
  exact hR _ (Int.emod_nonneg _ (by omega)) (Int.emod_lt_of_pos _ (by omega)) (hI.done hm hg)

/-! combine: rows of rests and moduli joined -/
def prodM (ps : List (Int × Int)) : Int := ps.foldl (fun a q => a * q.2) 1
theorem prodM_snoc (ps : List (Int × Int)) (q : Int × Int) : prodM (ps ++ [q]) = prodM ps * q.2 := by
  unfold prodM
  rw [List.foldl_append]; rfl
def CombOk (ps : List (Int × Int)) : Prop := ∀ (i : Nat) (q : Int × Int), ps[i]? = some q → 1 ≤ q.2 ∧ Int.gcd (prodM (ps.take i)) q.2 = 1
theorem prodM_pos {ps : List (Int × Int)} (h : ∀ q ∈ ps, 1 ≤ q.2) : 1 ≤ prodM ps := by
  have go : ∀ (ps : List (Int × Int)) (a : Int), 1 ≤ a → (∀ q ∈ ps, 1 ≤ q.2) → 1 ≤ ps.foldl (fun a q => a * q.2) a := fun ps => by
    induction ps with
    | nil => intro a h _; exact h
    | cons q ps ih =>
      intro a h hq
      have := Int.mul_pos (show 0 < a by omega) (show 0 < q.2 by have := hq q List.mem_cons_self; omega)
      exact ih _ (show 1 ≤ a * q.2 by omega) fun q' h' => hq q' (List.mem_cons_of_mem _ h')
  exact go ps 1 (Int.le_refl 1) h
theorem prodM_bd {b : Nat} {ps : List (Int × Int)} (h : ∀ q ∈ ps, Bd b q.2) : ∀ i, i ≤ ps.length → Bd (b * i + 1) (prodM (ps.take i))
  | 0, _ => ⟨by show 1 < 2 ^ (b * 0 + 1); rw [Nat.mul_zero]; decide⟩
  | i + 1, hi => by
    have hg : ps[i]? = some ps[i] := List.getElem?_eq_getElem (by omega)
    rw [take_snoc hg, prodM_snoc]
    exact ((prodM_bd h i (by omega)).mul (h _ (List.getElem_mem _))).up (by rw [Nat.mul_succ]; omega)
theorem prodM_dvd {ps : List (Int × Int)} {q : Int × Int} (h : q ∈ ps) : q.2 ∣ prodM ps := by
  have go : ∀ (ps : List (Int × Int)) (a : Int), a ∣ ps.foldl (fun a q => a * q.2) a ∧ ∀ q ∈ ps, q.2 ∣ ps.foldl (fun a q => a * q.2) a := fun ps => by
    induction ps with
    | nil => intro a; exact ⟨Int.dvd_refl a, fun q h => by cases h⟩
    | cons p ps ih =>
      intro a
      obtain ⟨h1, h2⟩ := ih (a * p.2)
      refine ⟨Int.dvd_trans (Int.dvd_mul_right ..) h1, fun q hq => ?_⟩
      rcases List.mem_cons.mp hq with rfl | hq
      · exact Int.dvd_trans (Int.dvd_mul_left ..) h1
      · exact h2 q hq
  exact (go ps 1).2 q h
def fs_combine (K : PySem.W.Frag) : FS := fun ws μ R X => ∃ (d : D) (ps : List (Int × Int)) (b : Nat), ws = [.dat d] ∧ d.seq = some (ps.map prD) ∧ (∀ q ∈ ps, Bd b q.2) ∧ (∀ q ∈ ps, Bd 100000 q.1) ∧ b * ps.length + b < 8000 ∧ (¬ CombOk ps → X (.ref (He.ga K "OutOfRange")) [("name", .str "rows")] μ) ∧ (CombOk ps → ∀ s : Int, 0 ≤ s → s < prodM ps → (∀ q ∈ ps, q.2 ∣ s - q.1) → R (.dat (.tup [.int s, .int (prodM ps)])) μ)
structure CombI (ps : List (Int × Int)) (s n : Int) : Prop where
  en : n = prodM ps
  s0 : 0 ≤ s
  s1 : s < n
  d : ∀ q ∈ ps, q.2 ∣ s - q.1
theorem CombI.next {ps : List (Int × Int)} {s n r m t : Int} (h : CombI ps s n) (hm : 1 ≤ m) (hn : 1 ≤ n) (ht : m ∣ t * n - 1) : CombI (ps ++ [(r, m)]) (s + n * ((r - s) * t % m)) (n * m) where
  en := by rw [prodM_snoc, h.en]
  s0 := by
    have := Int.mul_nonneg (show 0 ≤ n by omega) (Int.emod_nonneg ((r - s) * t) (show m ≠ 0 by omega))
    have := h.s0
    omega
  s1 := by
    have h1 := Int.emod_lt_of_pos ((r - s) * t) (show 0 < m by omega)
    have h2 := Int.mul_le_mul_of_nonneg_left (show (r - s) * t % m ≤ m - 1 by omega) (show 0 ≤ n by omega)
    rw [Int.mul_sub, Int.mul_one] at h2
    have := h.s1
    omega
  d := fun q hq => by
    rcases List.mem_append.mp hq with hq | hq
    · have h1 := h.d q hq
      have h2 : q.2 ∣ n := by rw [h.en]; exact prodM_dvd hq
      have h3 := Int.dvd_add h1 (Int.dvd_mul_of_dvd_left (c := (r - s) * t % m) h2)
      rwa [show s - q.1 + n * ((r - s) * t % m) = s + n * ((r - s) * t % m) - q.1 by omega] at h3
    · rw [List.mem_singleton.mp hq]
      dsimp only
      have h1 : m ∣ (r - s) * t - (r - s) * t % m := Int.dvd_self_sub_emod
      have h2 := Int.dvd_mul_of_dvd_right (b := n) h1
      have h3 := Int.dvd_mul_of_dvd_right (b := r - s) ht
      have h4 := Int.dvd_sub h3 h2
      rwa [show (r - s) * (t * n - 1) - n * ((r - s) * t - (r - s) * t % m) = s + n * ((r - s) * t % m) - r by grind] at h4
theorem fn_combine (B : Base P w K mg base) : Fn P w K mg base "combine" 3 ["rows"] (fs_combine K) := by
  have F_greatest_divisor := fn_greatest_divisor B
  have F_inverse_modulo := fn_inverse_modulo B
  refine fn_mk (st := s_combine) (gl_combine B) (df_combine B) sc_combine (fun ws μ R X h => (by first | exact h.1 | (obtain ⟨_, rfl, _⟩ := h; rfl) | (obtain ⟨_, _, rfl, _⟩ := h; rfl) | (obtain ⟨_, _, _, rfl, _⟩ := h; rfl) | (obtain ⟨_, _, _, _, rfl, _⟩ := h; rfl) | (obtain ⟨_, _, _, _, _, rfl, _⟩ := h; rfl) | (obtain ⟨_, _, _, _, _, _, rfl, _⟩ := h; rfl) | (obtain ⟨_, _, _, _, _, _, _, rfl, _⟩ := h; rfl) | (obtain ⟨_, _, _, _, _, _, _, _, rfl, _⟩ := h; rfl))) (fun _ _ _ _ _ _ us hl => match us, hl with | [_], _ => rfl) fun cdv A outer s H E hr => ⟨_, (pss_cons (ps_set (i := 1) sc_combine.nd rfl (Or.inl rfl) pe_int)
  (pss_cons (ps_for (passes_of rfl) rfl (pi_seq (pv 0)) (pg_tup (n := 2) (by rfl) (pgs_cons (pg_name (i := 2) sc_combine.nd rfl (Or.inl rfl)) (pgs_cons (pg_name (i := 3) sc_combine.nd rfl (Or.inl rfl)) pgs_nil))) (pss_cons (ps_if (PW.pt (pw_or (pt_cmpR op_lt (pv 3) pe_int (nomark _)) (pw_or1 (pt_cmpR op_gt (pe_fn F_greatest_divisor hr (by decide) rfl (takes_of rfl rfl rfl rfl) (pa_cons (pv 1) (pa_cons (pv 3) pa_nil))) pe_int (nomark _))))) (pss_one (ps_raise1 (xc_OutOfRange B) rfl (takes_of rfl rfl rfl rfl) hr (by decide) rfl (pa_cons pe_str pa_nil))) pss_nil)
  (pss_one (ps_set (i := 1) sc_combine.nd rfl (Or.inl rfl) (pe_op op_mulW (pv 1) (pv 3))))))
  (pss_cons (ps_set (i := 4) sc_combine.nd rfl (Or.inl rfl) pe_int)
  (pss_cons (ps_set (i := 5) sc_combine.nd rfl (Or.inl rfl) pe_int)
  (pss_cons (ps_for (passes_of rfl) rfl (pi_seq (pv 0)) (pg_tup (n := 2) (by rfl) (pgs_cons (pg_name (i := 6) sc_combine.nd rfl (Or.inl rfl)) (pgs_cons (pg_name (i := 3) sc_combine.nd rfl (Or.inl rfl)) pgs_nil))) (pss_cons (ps_set (i := 4) sc_combine.nd rfl (Or.inl rfl) (pe_op op_add (pv 4) (pe_op op_mulW (pv 5) (pe_op op_mod (pe_op op_mulW (pe_op op_sub (pv 6) (pv 4)) (pe_fn F_inverse_modulo hr (by decide) rfl (takes_of rfl rfl rfl rfl) (pa_cons (pv 5) (pa_cons (pv 3) pa_nil)))) (pv 3)))))
  (pss_one (ps_set (i := 5) sc_combine.nd rfl (Or.inl rfl) (pe_op op_mulW (pv 5) (pv 3))))))
  (pss_one (ps_ret (pe_tup (pa_cons (pv 4) (pa_cons (pv 5) pa_nil)))))))))), fun ws μ R X h => ?_⟩
  obtain ⟨d, ps, b, rfl, hs, hb, hb1, hl, hX, hR⟩ := h
  change RS _ _ [some _, none, none, none, none, none, none] _ _
  (try dsimp only [cxOf])
  wtm_at "go"
  refine rs_slot3 1 2 3 (fun _ _ _ μ' => μ = μ' ∧ CombOk ps) ?_ ?_
  · refine rs_forI3 1 2 3 (fun i o _ _ μ' => o = some (.i (prodM (ps.take i))) ∧ μ = μ' ∧ ∀ (j : Nat) (q : Int × Int), j < i → ps[j]? = some q → 1 ≤ q.2 ∧ Int.gcd (prodM (ps.take j)) q.2 = 1) (ri_seq (re_v (by wtm_at "ve") ⟨d, _, rfl, hs, ⟨_, _, _, rfl, rfl, rfl, rfl, rfl, fun j q h => by omega⟩, ?_, ?_⟩))
    · rintro i e o o2 o3 _ hd ⟨rfl, rfl, hI⟩
      rw [List.getElem?_map] at hd
      obtain ⟨⟨r, m⟩, hq, rfl⟩ := Option.map_eq_some_iff.mp hd
      have hil := (List.getElem?_eq_some_iff.mp hq).1
      refine rg_tup rfl (rgs_cons (rg_name rfl (rgs_cons (rg_name rfl (rgs_nil ?_)))))
      dsimp only [List.set_cons_zero, List.set_cons_succ]
      wtm_at "go"
      refine ⟨fun y => ?_, fun y => ?_⟩
      · have y := of_decide_eq_false y
        wtm_at "go"
        refine callF1 ⟨_, m, rfl, ?_⟩
        wtm_at "go"
        refine ⟨fun z => ?_, fun z => ?_⟩
        · have z := of_decide_eq_true z
          refine rs_raise1 (xc_OutOfRange B).ox (xc_OutOfRange B).no ?_
          wtm_at "go"
          refine ⟨_, rfl, hX fun ok => ?_⟩
          have := (ok i _ hq).2
          dsimp only at this
          omega
        · have z := of_decide_eq_false z
          have hmb := hb _ (List.mem_of_getElem? hq)
          have hpb := prodM_bd hb i (by omega)
          have hbi : b * i ≤ b * ps.length := Nat.mul_le_mul_left b (by omega)
          dsimp only at hmb
          have hc : CMulW (prodM (ps.take i)) m := cmulw hpb hmb (by omega)
          wtm_at "go"
          refine ⟨_, _, _, rfl, by rw [take_snoc hq, prodM_snoc], rfl, fun j q hj hq2 => ?_⟩
          rcases (by omega : j < i ∨ j = i) with h | rfl
          · exact hI j q h hq2
          · rw [hq] at hq2
            cases hq2
            have hg0 := gcd_pos (x := prodM (ps.take j)) (y := m) (by omega)
            exact ⟨by dsimp only; omega, by dsimp only; omega⟩
      · have y := of_decide_eq_true y
        wtm_at "rx"
        refine rs_raise1 (xc_OutOfRange B).ox (xc_OutOfRange B).no ?_
        wtm_at "go"
        refine ⟨_, rfl, hX fun ok => ?_⟩
        have := (ok i _ hq).1
        dsimp only at this
        omega
    · rintro o o2 o3 _ ⟨rfl, rfl, hI⟩
      rw [List.length_map] at hI
      exact ⟨_, _, _, rfl, rfl, fun j q hq => hI j q (List.getElem?_eq_some_iff.mp hq).1 hq⟩
  rintro o o2 o3 _ ⟨rfl, ok⟩
  have hR := hR ok
  have hm1 : ∀ q ∈ ps, 1 ≤ q.2 := fun q hq => by
    obtain ⟨i, hi⟩ := List.mem_iff_getElem?.mp hq
    exact (ok i q hi).1
  dsimp only [List.set_cons_zero, List.set_cons_succ]
  wtm_at "go"
  refine rs_slot4 4 5 6 3 (fun o4 o5 _ _ μ' => μ = μ' ∧ ∃ s n, o4 = some (.i s) ∧ o5 = some (.i n) ∧ CombI ps s n) ?_ ?_
  · refine rs_forI4 4 5 6 3 (fun i o4 o5 _ _ μ' => μ = μ' ∧ ∃ s n, o4 = some (.i s) ∧ o5 = some (.i n) ∧ CombI (ps.take i) s n) (ri_seq (re_v (by wtm_at "ve") ⟨d, _, rfl, hs, ⟨_, _, _, _, rfl, rfl, rfl, rfl, rfl, 0, 1, rfl, rfl, ⟨rfl, by decide, by decide, fun q h => by cases h⟩⟩, ?_, ?_⟩))
    · rintro i e o4 o5 o6 o3 _ hd ⟨rfl, s, n, rfl, rfl, hI⟩
      rw [List.getElem?_map] at hd
      obtain ⟨⟨r, m⟩, hq, rfl⟩ := Option.map_eq_some_iff.mp hd
      have hil := (List.getElem?_eq_some_iff.mp hq).1
      have hmm := (ok i _ hq)
      dsimp only at hmm
      have hmb := hb _ (List.mem_of_getElem? hq)
      have hrb := hb1 _ (List.mem_of_getElem? hq)
      have hpb := prodM_bd hb i (by omega)
      have hbi : b * i ≤ b * ps.length := Nat.mul_le_mul_left b (by omega)
      have hn1 : 1 ≤ prodM (ps.take i) := prodM_pos fun q hq => hm1 q (List.mem_of_mem_take hq)
      rw [← hI.en] at hn1 hpb hmm
      dsimp only at hmb hrb
      have s0 := hI.s0
      have s1 := hI.s1
      refine rg_tup rfl (rgs_cons (rg_name rfl (rgs_cons (rg_name rfl (rgs_nil ?_)))))
      dsimp only [List.set_cons_zero, List.set_cons_succ]
      wtm_at "go"
      refine callF1 ⟨n, m, rfl, hmm.1, hmb.up (by omega), by rw [Int.gcd_comm]; exact hmm.2, fun t t0 t1 ht => ?_⟩
      have htb : Bd 8000 t := (hmb.up (by omega)).le (by omega)
      have hsb : Bd 8001 s := (hpb.up (by omega)).le (by omega)
      have hrs : Bd 100001 (r - s) := by
        rw [Int.sub_eq_add_neg]
        exact hrb.add1 (hsb.neg.up (by decide))
      have hc1 : CMulW (r - s) t := cmulw hrs htb (by decide)
      have u0 := Int.emod_nonneg ((r - s) * t) (show m ≠ 0 by omega)
      have u1 := Int.emod_lt_of_pos ((r - s) * t) (show 0 < m by omega)
      have hub : Bd 8000 ((r - s) * t % m) := (hmb.up (by omega)).le (by omega)
      have hnb : Bd 8001 n := hpb.up (by omega)
      have hc2 : CMulW n ((r - s) * t % m) := cmulw hnb hub (by decide)
      have hc3 : CMulW n m := cmulw hpb hmb (by omega)
      wtm_at "go"
      refine ⟨_, _, _, _, rfl, rfl, _, _, rfl, rfl, ?_⟩
      rw [take_snoc hq]
      exact hI.next hmm.1 hn1 ht
    · rintro o4 o5 o6 o3 _ ⟨rfl, s, n, rfl, rfl, hI⟩
      rw [List.length_map, List.take_length] at hI
      exact ⟨_, _, _, _, rfl, rfl, s, n, rfl, rfl, hI⟩
  rintro o4 o5 o6 o3 _ ⟨rfl, s, n, rfl, rfl, hI⟩
  dsimp only [List.set_cons_zero, List.set_cons_succ]
  wtm_at "go"
  have hn := hI.en
  subst hn
  exact hR s hI.s0 hI.s1 hI.d

/-! split_off: the greatest power of p, and the rest -/
def fs_split_off : FS := fun ws μ R _ => ∃ n p : Int, ws = [.i n, .i p] ∧ n ≠ 0 ∧ 2 ≤ p ∧ Bd 8900 p ∧ R (.dat (.tup [.int ((splF p n).1 : Nat), .int (splF p n).2])) μ
theorem fn_split_off (B : Base P w K mg base) : Fn P w K mg base "split_off" 1 ["n", "p"] fs_split_off := by
  refine fn_mk (st := s_split_off) (gl_split_off B) (df_split_off B) sc_split_off (fun ws μ R X h => (by first | exact h.1 | (obtain ⟨_, rfl, _⟩ := h; rfl) | (obtain ⟨_, _, rfl, _⟩ := h; rfl) | (obtain ⟨_, _, _, rfl, _⟩ := h; rfl) | (obtain ⟨_, _, _, _, rfl, _⟩ := h; rfl) | (obtain ⟨_, _, _, _, _, rfl, _⟩ := h; rfl) | (obtain ⟨_, _, _, _, _, _, rfl, _⟩ := h; rfl) | (obtain ⟨_, _, _, _, _, _, _, rfl, _⟩ := h; rfl) | (obtain ⟨_, _, _, _, _, _, _, _, rfl, _⟩ := h; rfl))) (fun _ _ _ _ _ _ us hl => match us, hl with | [_, _], _ => rfl) fun cdv A outer s H E hr => ⟨_, (pss_cons (ps_set (i := 2) sc_split_off.nd rfl (Or.inl rfl) (pv 0))
  (pss_cons (ps_set (i := 3) sc_split_off.nd rfl (Or.inl rfl) pe_int)
  (pss_cons (ps_while (passes_of rfl) (pt_cmpR op_eq (pe_op op_mod (pv 2) (pv 1)) pe_int (nomark _)) (pss_cons (ps_set (i := 2) sc_split_off.nd rfl (Or.inl rfl) (pe_op op_fdivW (pv 2) (pv 1)))
  (pss_one (ps_set (i := 3) sc_split_off.nd rfl (Or.inl rfl) (pe_op op_add (pv 3) pe_int)))))
  (pss_one (ps_ret (pe_tup (pa_cons (pv 3) (pa_cons (pv 2) pa_nil)))))))), fun ws μ R X h => ?_⟩
  obtain ⟨n, p, rfl, hn, hp, hpb, hR⟩ := h
  change RS _ _ [some _, some _, none, none] _ _
  (try dsimp only [cxOf])
  wtm_at "go"
  refine rs_to (fun ε' μ' => [some (.i n), some (.i p), some (.i (splF p n).2), some (.i ((splF p n).1 : Nat))] = ε' ∧ μ = μ') ?_ ?_
  · refine rs_while (fun m ε' μ' => ∃ (k : Nat) (r : Int), [some (.i n), some (.i p), some (.i r), some (.i (k : Int))] = ε' ∧ μ = μ' ∧ n = p ^ k * r ∧ r ≠ 0 ∧ m = r.natAbs) n.natAbs ⟨0, n, rfl, rfl, by rw [Int.pow_zero, Int.one_mul], hn, rfl⟩ ?_
    rintro m ε' μ' ⟨k, r, rfl, rfl, e, hr, rfl⟩
    refine ⟨_, by wtm_at "vt", fun z => ?_, fun z => ?_⟩
    · have z := of_decide_eq_true z
      have hd := Int.dvd_of_emod_eq_zero z
      have e2 := Int.mul_ediv_cancel' hd
      have h1 : r / p ≠ 0 := fun q => hr (by rw [← e2, q, Int.mul_zero])
      have h2 : (r / p).natAbs < r.natAbs := by
        have h3 : r.natAbs = p.natAbs * (r / p).natAbs := by rw [← Int.natAbs_mul, e2]
        have h4 : 2 * (r / p).natAbs ≤ p.natAbs * (r / p).natAbs := Nat.mul_le_mul_right _ (by omega)
        omega
      have hc : CDivW r p := cdivw (by omega) hpb (by decide)
      wtm_at "go"
      refine ⟨_, h2, k + 1, r / p, rfl, rfl, ?_, h1, rfl⟩
      rw [Int.pow_succ, Int.mul_assoc, e2]
      exact e
    · have z := of_decide_eq_false z
      have e3 := splF_of hp hn e fun hd => z (Int.emod_eq_zero_of_dvd hd)
      rw [e3]
      exact ⟨rfl, rfl⟩
  rintro ε' μ' ⟨rfl, rfl⟩
  wtm_at "go"
  exact hR

/-! prime_parts: the powers of primes up to 997, an owned list, and the rest -/
def fs_prime_parts (K : PySem.W.Frag) : FS := fun ws μ R X => ∃ n : Int, ws = [.i n] ∧ (n < 1 → X (.ref (He.ga K "OutOfRange")) [("name", .str "n")] μ) ∧ (1 ≤ n → ∀ l, R (.dat (.tup [.own l, .int (ppF n).2])) ((l, .lst (((ppF n).1.map prD).map .dat)) :: μ))
theorem fn_prime_parts (B : Base P w K mg base) : Fn P w K mg base "prime_parts" 3 ["n"] (fs_prime_parts K) := by
  have F_split_off := fn_split_off B
  refine fn_mk (st := s_prime_parts) (gl_prime_parts B) (df_prime_parts B) sc_prime_parts (fun ws μ R X h => (by first | exact h.1 | (obtain ⟨_, rfl, _⟩ := h; rfl) | (obtain ⟨_, _, rfl, _⟩ := h; rfl) | (obtain ⟨_, _, _, rfl, _⟩ := h; rfl) | (obtain ⟨_, _, _, _, rfl, _⟩ := h; rfl) | (obtain ⟨_, _, _, _, _, rfl, _⟩ := h; rfl) | (obtain ⟨_, _, _, _, _, _, rfl, _⟩ := h; rfl) | (obtain ⟨_, _, _, _, _, _, _, rfl, _⟩ := h; rfl) | (obtain ⟨_, _, _, _, _, _, _, _, rfl, _⟩ := h; rfl))) (fun _ _ _ _ _ _ us hl => match us, hl with | [_], _ => rfl) fun cdv A outer s H E hr => ⟨_, (pss_cons (ps_if (pt_cmpR op_lt (pv 0) pe_int (nomark _)) (pss_one (ps_raise1 (xc_OutOfRange B) rfl (takes_of rfl rfl rfl rfl) hr (by decide) rfl (pa_cons pe_str pa_nil))) pss_nil)
  (pss_cons (ps_set (i := 1) sc_prime_parts.nd rfl (Or.inl rfl) (pe_lst pa_nil))
  (pss_cons (ps_set (i := 2) sc_prime_parts.nd rfl (Or.inl rfl) (pv 0))
  (pss_cons (ps_for (passes_of rfl) rfl (pi_range2 rfl (fr_range B) (pa_cons pe_int (pa_cons (pe_op op_add (pe_gi (ct_LAST_PRIME B)) pe_int) pa_nil))) (pg_name (i := 3) sc_prime_parts.nd rfl (Or.inl rfl)) (pss_cons (ps_if (pt_cmpR op_eq (pv 2) pe_int (nomark _)) (pss_one ps_break) pss_nil)
  (pss_cons (ps_if (pt_cmpR op_gt (pe_op op_mulW (pv 3) (pv 3)) (pv 2) (nomark _)) (pss_cons (ps_if (pt_cmpR op_le (pv 2) (pe_gi (ct_LAST_PRIME B)) (nomark _)) (pss_cons (ps_expr (pe_bm PySem.F.plainAttrs_list PySem.F.slot_list_append PySem.F.type_list_append mt_append (pv 1) (pa_cons (pe_tup (pa_cons (pv 2) (pa_cons pe_int pa_nil))) pa_nil)))
  (pss_one (ps_set (i := 2) sc_prime_parts.nd rfl (Or.inl rfl) pe_int))) pss_nil)
  (pss_one ps_break)) pss_nil)
  (pss_one (ps_if (pt_cmpR op_eq (pe_op op_mod (pv 2) (pv 3)) pe_int (nomark _)) (pss_cons (ps_asg (pe_fn F_split_off hr (by decide) rfl (takes_of rfl rfl rfl rfl) (pa_cons (pv 2) (pa_cons (pv 3) pa_nil))) (pg_tup (n := 2) (by rfl) (pgs_cons (pg_name (i := 4) sc_prime_parts.nd rfl (Or.inl rfl)) (pgs_cons (pg_name (i := 2) sc_prime_parts.nd rfl (Or.inl rfl)) pgs_nil))))
  (pss_one (ps_expr (pe_bm PySem.F.plainAttrs_list PySem.F.slot_list_append PySem.F.type_list_append mt_append (pv 1) (pa_cons (pe_tup (pa_cons (pv 3) (pa_cons (pv 4) pa_nil))) pa_nil))))) pss_nil)))))
  (pss_one (ps_ret (pe_tup (pa_cons (pv 1) (pa_cons (pv 2) pa_nil))))))))), fun ws μ R X h => ?_⟩
  obtain ⟨n, rfl, hX, hR⟩ := h
  change RS _ _ [some _, none, none, none, none] _ _
  (try dsimp only [cxOf])
  wtm_at "go"
  refine rs_ifv (by wtm_at "vt") ?_ ?_
  · intro z; (try simp only [decide_eq_true_eq, decide_eq_false_iff_not, Bool.not_eq_true', Bool.and_eq_true, Bool.or_eq_true, Bool.not_eq_false', Bool.and_eq_false_imp, Bool.or_eq_false_iff, Bool.not_true, Bool.not_false] at z)
    refine rs_raise1 (xc_OutOfRange B).ox (xc_OutOfRange B).no ?_
    wtm_at "go"
    exact ⟨_, rfl, hX z⟩
  intro z; (try simp only [decide_eq_true_eq, decide_eq_false_iff_not, Bool.not_eq_true', Bool.and_eq_true, Bool.or_eq_true, Bool.not_eq_false', Bool.and_eq_false_imp, Bool.or_eq_false_iff, Bool.not_true, Bool.not_false] at z)
  have hn : 1 ≤ n := by omega
  wtm_at "go"
  refine re_lst ?_
  wtm_at "go"
  refine dl_o (by wtm_at "sz") fun l => ?_
  have hR := hR hn l
  wtm_at "go"
  refine rs_slot3 2 3 4 (fun o2 _ _ μ' => o2 = some (.i (ppF n).2) ∧ (l, HC.lst (((ppF n).1.map prD).map .dat)) :: μ = μ') ?_ ?_
  · refine rs_forI3 2 3 4 (fun i o2 _ _ μ' => ∃ ps r, ppI n i = (ps, r, false) ∧ o2 = some (.i r) ∧ (l, HC.lst ((ps.map prD).map .dat)) :: μ = μ') (ri_rng2 (ra_v (by wtm_at "va") ⟨2, _, rfl, by decide, ⟨_, _, _, rfl, rfl, rfl, [], n, rfl, rfl, rfl⟩, ?_, ?_⟩))
    · rintro i d o2 o3 o4 _ hd ⟨ps, r, hI, rfl, rfl⟩
      have hi : i < 996 := by
        have := (List.getElem?_eq_some_iff.mp hd).1
        rw [rng_length] at this
        exact this
      rw [rng_at (n := (((997 : Int) + 1) - 2).toNat) hi] at hd
      cases hd
      have ok := ppI_ok hn i (by omega)
      rw [hI] at ok
      have hr1 : 1 ≤ r := ok.r1
      have hln := ok.ln
      dsimp only at hln
      have hst := ppI_succ n i
      rw [hI] at hst
      unfold ppS at hst
      dsimp only at hst
      rw [if_neg Bool.false_ne_true] at hst
      have fin : ∀ s, ppI n (i + 1) = s → s.2.2 = true → ppF n = (s.1, s.2.1) := fun s e h => by
        have := ppI_stop (n := n) (i := i + 1) (by rw [e]; exact h) (996 - (i + 1))
        rw [show i + 1 + (996 - (i + 1)) = 996 by omega, e] at this
        unfold ppF
        rw [this]
      refine rg_name rfl ?_
      dsimp only [List.set_cons_zero, List.set_cons_succ]
      wtm_at "go"
      refine rs_ifv (by wtm_at "vt") ?_ ?_
      · intro y; (try simp only [decide_eq_true_eq, decide_eq_false_iff_not, Bool.not_eq_true', Bool.and_eq_true, Bool.or_eq_true, Bool.not_eq_false', Bool.and_eq_false_imp, Bool.or_eq_false_iff, Bool.not_true, Bool.not_false] at y)
        rw [if_pos y] at hst
        have e := fin _ hst rfl
        wtm_at "go"
        rw [e]
        exact ⟨_, _, _, rfl, rfl, rfl⟩
      intro y; (try simp only [decide_eq_true_eq, decide_eq_false_iff_not, Bool.not_eq_true', Bool.and_eq_true, Bool.or_eq_true, Bool.not_eq_false', Bool.and_eq_false_imp, Bool.or_eq_false_iff, Bool.not_true, Bool.not_false] at y)
      rw [if_neg y] at hst
      wtm_at "go"
      refine rs_ifv (by wtm_at "vt") ?_ ?_
      · intro y2; (try simp only [decide_eq_true_eq, decide_eq_false_iff_not, Bool.not_eq_true', Bool.and_eq_true, Bool.or_eq_true, Bool.not_eq_false', Bool.and_eq_false_imp, Bool.or_eq_false_iff, Bool.not_true, Bool.not_false] at y2)
        rw [if_pos y2] at hst
        wtm_at "go"
        refine rs_ifv (by wtm_at "vt") ?_ ?_
        · intro y3; (try simp only [decide_eq_true_eq, decide_eq_false_iff_not, Bool.not_eq_true', Bool.and_eq_true, Bool.or_eq_true, Bool.not_eq_false', Bool.and_eq_false_imp, Bool.or_eq_false_iff, Bool.not_true, Bool.not_false] at y3)
          rw [if_pos y3] at hst
          have e := fin _ hst rfl
          wtm_at "rs"
          refine rs_append (k := 0) (by wtm_at "ve") rfl ?_
          wtm_at "go"
          refine ⟨0, _, rfl, len_lt (by rw [List.length_map, List.length_map]; omega), ?_⟩
          wtm_at "go"
          rw [e]
          refine ⟨_, _, _, rfl, rfl, ?_⟩
          dsimp only
          rw [List.map_append, List.map_append]
          rfl
        · intro y3; (try simp only [decide_eq_true_eq, decide_eq_false_iff_not, Bool.not_eq_true', Bool.and_eq_true, Bool.or_eq_true, Bool.not_eq_false', Bool.and_eq_false_imp, Bool.or_eq_false_iff, Bool.not_true, Bool.not_false] at y3)
          rw [if_neg y3] at hst
          have e := fin _ hst rfl
          wtm_at "go"
          rw [e]
          exact ⟨_, _, _, rfl, rfl, rfl⟩
      intro y2; (try simp only [decide_eq_true_eq, decide_eq_false_iff_not, Bool.not_eq_true', Bool.and_eq_true, Bool.or_eq_true, Bool.not_eq_false', Bool.and_eq_false_imp, Bool.or_eq_false_iff, Bool.not_true, Bool.not_false] at y2)
      rw [if_neg y2] at hst
      wtm_at "go"
      refine rs_ifv (by wtm_at "vt") ?_ ?_
      · intro y4; (try simp only [decide_eq_true_eq, decide_eq_false_iff_not, Bool.not_eq_true', Bool.and_eq_true, Bool.or_eq_true, Bool.not_eq_false', Bool.and_eq_false_imp, Bool.or_eq_false_iff, Bool.not_true, Bool.not_false] at y4)
        rw [if_pos y4] at hst
        wtm_at "go"
        refine callF1 ⟨r, 2 + (i : Int), rfl, by omega, by omega, (Bd.om (by omega) (by omega)).up (by decide), ?_⟩
        refine rg_tup rfl (rgs_cons (rg_name rfl (rgs_cons (rg_name rfl (rgs_nil ?_)))))
        dsimp only [List.set_cons_zero, List.set_cons_succ]
        refine rs_append (k := 0) (by wtm_at "ve") rfl ?_
        wtm_at "go"
        refine ⟨0, _, rfl, len_lt (by rw [List.length_map, List.length_map]; omega), ?_⟩
        refine ⟨_, _, _, rfl, _, _, hst, rfl, ?_⟩
        rw [List.map_append, List.map_append]
        rfl
      · intro y4; (try simp only [decide_eq_true_eq, decide_eq_false_iff_not, Bool.not_eq_true', Bool.and_eq_true, Bool.or_eq_true, Bool.not_eq_false', Bool.and_eq_false_imp, Bool.or_eq_false_iff, Bool.not_true, Bool.not_false] at y4)
        rw [if_neg y4] at hst
        wtm_at "go"
        exact ⟨_, _, _, rfl, _, _, hst, rfl, rfl⟩
    · rintro o2 o3 o4 _ ⟨ps, r, hI, rfl, rfl⟩
      rw [rng_length] at hI
      have hI : ppI n 996 = (ps, r, false) := hI
      have e : ppF n = (ps, r) := by unfold ppF; rw [hI]
      rw [e]
      exact ⟨_, _, _, rfl, rfl, rfl⟩
  rintro o2 o3 o4 _ ⟨rfl, rfl⟩
  dsimp only [List.set_cons_zero, List.set_cons_succ]
  wtm_at "go"
  exact hR

/-! fraction_in: a fraction in a class modulo a number -/
def rwX (ps cs : List (Int × Int)) : List (Int × Int) := (cs.zip ps).map fun q => (q.1.1, q.2.1 ^ q.2.2.toNat)
def rwY (ps cs : List (Int × Int)) : List (Int × Int) := (cs.zip ps).map fun q => (q.1.2, q.2.1 ^ q.2.2.toNat)
theorem prodM_pf {L ps : List (Int × Int)} (h : L.map (·.2) = ps.map fun q => q.1 ^ q.2.toNat) : prodM L = prodF 1 ps := by
  have e1 : ∀ (L : List (Int × Int)) (a : Int), L.foldl (fun a q => a * q.2) a = (L.map (·.2)).foldl (· * ·) a := fun L => by
    induction L with
    | nil => intro a; rfl
    | cons q L ih => intro a; exact ih _
  have e2 : ∀ (L : List (Int × Int)) (a : Int), L.foldl (fun a q => a * q.1 ^ q.2.toNat) a = (L.map fun q => q.1 ^ q.2.toNat).foldl (· * ·) a := fun L => by
    induction L with
    | nil => intro a; rfl
    | cons q L ih => intro a; exact ih _
  unfold prodM prodF
  rw [e1, e2, h]
theorem rw_snd (f : Int × Int → Int) {ps cs : List (Int × Int)} (h : cs.length = ps.length) : ((cs.zip ps).map fun q => (f q.1, q.2.1 ^ q.2.2.toNat)).map (·.2) = ps.map fun q => q.1 ^ q.2.toNat := by
  rw [List.map_map]
  refine List.ext_getElem? fun i => ?_
  rw [List.getElem?_map, List.getElem?_map]
  rcases Nat.lt_or_ge i ps.length with z | z
  · rw [List.getElem?_eq_getElem (show i < (cs.zip ps).length by rw [List.length_zip]; omega), List.getElem?_eq_getElem z, List.getElem_zip]; rfl
  · rw [List.getElem?_eq_none (by rw [List.length_zip]; omega), List.getElem?_eq_none z]; rfl
theorem rw_comb {n : Int} (n1 : 1 ≤ n) (n2 : n ≤ 900) {L : List (Int × Int)} (h : L.map (·.2) = (pf n).map fun q => q.1 ^ q.2.toNat) : CombOk L ∧ prodM L = n := by
  have ok := pf_ok n1 n2
  have hl : L.length = (pf n).length := by have := congrArg List.length h; rwa [List.length_map, List.length_map] at this
  refine ⟨fun i q hq => ?_, by rw [prodM_pf h]; exact ok.p.symm⟩
  have hil := (List.getElem?_eq_some_iff.mp hq).1
  have hg : (pf n)[i]? = some (pf n)[i] := List.getElem?_eq_getElem (by omega)
  have e : q.2 = (pf n)[i].1 ^ (pf n)[i].2.toNat := by
    have := congrArg (fun l => l[i]?) h
    rw [List.getElem?_map, List.getElem?_map, hq, hg] at this
    exact Option.some.inj this
  have hp := (ok.m _ (List.getElem_mem (show i < (pf n).length by omega))).1
  rw [e]
  refine ⟨pow_one_le hp.2.1 _, ?_⟩
  rw [prodM_pf (ps := (pf n).take i) (by rw [List.map_take, List.map_take, h]), Int.gcd_comm]
  refine isP_pow_gcd hp.2 (fun z => ?_) _
  rcases prime_prod hp.2 z with y | ⟨q', hq', y⟩
  · exact no_one hp.2.1 y
  · obtain ⟨j, hj, rfl⟩ := List.mem_iff_getElem.mp hq'
    rw [List.length_take] at hj
    rw [List.getElem_take] at y
    have h1 := isP_eq hp.2 (ok.m _ (List.getElem_mem (show j < (pf n).length by omega))).1.2 y
    have h2 := List.pairwise_iff_getElem.mp ok.s j i (by omega) (by omega) (by omega)
    omega
/-- the numbers that stand for the two rows -/
structure CrtI (n : Int) (cs : List (Int × Int)) (X Y : Int) : Prop where
  x0 : 0 ≤ X
  x1 : X < n
  y0 : 0 ≤ Y
  y1 : Y < n
  m : ∀ (i : Nat) (q c : Int × Int), (pf n)[i]? = some q → cs[i]? = some c → q.1 ^ q.2.toNat ∣ X - c.1 ∧ q.1 ^ q.2.toNat ∣ Y - c.2
theorem CrtI.uniq {n : Int} (n1 : 1 ≤ n) (n2 : n ≤ 900) {cs : List (Int × Int)} {X Y X' Y' : Int} (hl : cs.length = (pf n).length) (h : CrtI n cs X Y) (k : CrtI n cs X' Y') : X = X' ∧ Y = Y' := by
  have two : n ∣ X - X' ∧ n ∣ Y - Y' := by
    rw [pf_dvd n1 n2, pf_dvd n1 n2]
    have one : ∀ q ∈ pf n, q.1 ^ q.2.toNat ∣ X - X' ∧ q.1 ^ q.2.toNat ∣ Y - Y' := fun q hq => by
      obtain ⟨i, hi, rfl⟩ := List.mem_iff_getElem.mp hq
      have e1 : cs[i]? = some (cs[i]'(by omega)) := List.getElem?_eq_getElem _
      obtain ⟨a1, a2⟩ := h.m i _ _ (List.getElem?_eq_getElem hi) e1
      obtain ⟨b1, b2⟩ := k.m i _ _ (List.getElem?_eq_getElem hi) e1
      have c1 := Int.dvd_sub a1 b1
      have c2 := Int.dvd_sub a2 b2
      rw [show ∀ a b c : Int, a - c - (b - c) = a - b from fun a b c => by omega] at c1 c2
      exact ⟨c1, c2⟩
    exact ⟨fun q hq => (one q hq).1, fun q hq => (one q hq).2⟩
  exact ⟨small_eq h.x0 h.x1 k.x0 k.x1 two.1, small_eq h.y0 h.y1 k.y0 k.y1 two.2⟩
def FrI (n : Int) (cs : List (Int × Int)) (d : D) : Prop := (n = 1 ∧ d = .tup [.int 0, .int 1]) ∨ (n ≠ 1 ∧ ∃ X Y, CrtI n cs X Y ∧ d = lowD X Y)
theorem FrI.uniq {n : Int} (n1 : 1 ≤ n) (n2 : n ≤ 900) {cs : List (Int × Int)} {d e : D} (hl : cs.length = (pf n).length) (h : FrI n cs d) (k : FrI n cs e) : d = e := by
  rcases h with ⟨rfl, rfl⟩ | ⟨h1, X, Y, h2, rfl⟩ <;> rcases k with ⟨k1, rfl⟩ | ⟨k1, X', Y', k2, rfl⟩
  · rfl
  · exact absurd rfl k1
  · exact absurd k1 h1
  · obtain ⟨rfl, rfl⟩ := h2.uniq n1 n2 hl k2
    rfl
theorem CrtI.nz {n : Int} (n1 : 2 ≤ n) (n2 : n ≤ 900) {cs : List (Int × Int)} {X Y : Int} (hc : ItR (pf n) cs) (h : CrtI n cs X Y) : ¬ (X = 0 ∧ Y = 0) := by
  rintro ⟨rfl, rfl⟩
  have ok := pf_ok (show 1 ≤ n by omega) n2
  have hne : 0 < (pf n).length := by
    rcases Nat.eq_zero_or_pos (pf n).length with z | z
    · have := ok.p
      rw [List.length_eq_zero_iff.mp z] at this
      have : n = 1 := this
      omega
    · exact z
  have e0 : (pf n)[0]? = some (pf n)[0] := List.getElem?_eq_getElem hne
  have e1 : cs[0]? = some (cs[0]'(by rw [hc.1]; exact hne)) := List.getElem?_eq_getElem _
  obtain ⟨hp, he, _, _⟩ := ok.m _ (List.getElem_mem hne)
  obtain ⟨a1, a2⟩ := h.m 0 _ _ e0 e1
  have hd : (pf n)[0].1 ∣ (pf n)[0].1 ^ (pf n)[0].2.toNat := pow_dvd1 _ (by omega)
  have b1 := Int.dvd_trans hd a1
  have b2 := Int.dvd_trans hd a2
  rw [Int.zero_sub, Int.dvd_neg] at b1 b2
  rcases hc.2 0 _ _ e0 e1 with ⟨z, _⟩ | ⟨z, _⟩
  · rw [z] at b2; exact no_one hp.2.1 b2
  · rw [z] at b1; exact no_one hp.2.1 b1
theorem FrI.near {n : Int} (n1 : 1 ≤ n) (n2 : n ≤ 900) {cs : List (Int × Int)} {d : D} (hc : ItR (pf n) cs) (h : FrI n cs d) : ∃ a b, d = .tup [.int a, .int b] ∧ Lt a b ∧ a.natAbs ≤ 900 ∧ b.natAbs ≤ 900 ∧ ∀ (i : Nat) (q c : Int × Int), (pf n)[i]? = some q → cs[i]? = some c → q.1 ^ q.2.toNat ∣ a * c.2 - b * c.1 := by
  have ok := pf_ok n1 n2
  rcases h with ⟨rfl, rfl⟩ | ⟨h1, X, Y, h2, rfl⟩
  · refine ⟨0, 1, rfl, isF_iff.mp (by decide), by decide, by decide, fun i q c a _ => ?_⟩
    rw [pf_one] at a
    cases a
  · have hnz := h2.nz (by omega) n2 hc
    obtain ⟨p, q, s, e1, e2, hs, hl, e3⟩ := low_of hnz
    refine ⟨p, q, e3, hl, ?_, ?_, fun i f c a b => ?_⟩
    · have := abs_le_mul (p := p) hs
      rw [← e1] at this
      have := h2.x0; have := h2.x1
      omega
    · have := abs_le_mul (p := q) hs
      rw [← e2] at this
      have := h2.y0; have := h2.y1
      omega
    · obtain ⟨hp, he, _, _⟩ := ok.m _ (List.mem_of_getElem? a)
      obtain ⟨a1, a2⟩ := h2.m i f c a b
      have hd : f.1 ∣ f.1 ^ f.2.toNat := pow_dvd1 _ (by omega)
      have ns : ¬ f.1 ∣ s := fun z => by
        have z1 : f.1 ∣ X := by rw [e1]; exact Int.dvd_mul_of_dvd_right z
        have z2 : f.1 ∣ Y := by rw [e2]; exact Int.dvd_mul_of_dvd_right z
        have y1 := Int.dvd_sub z1 (Int.dvd_trans hd a1)
        have y2 := Int.dvd_sub z2 (Int.dvd_trans hd a2)
        rw [Int.sub_sub_self] at y1 y2
        rcases hc.2 i _ _ a b with ⟨w, _⟩ | ⟨w, _⟩
        · rw [w] at y2; exact no_one hp.2.1 y2
        · rw [w] at y1; exact no_one hp.2.1 y1
      have h5 : f.1 ^ f.2.toNat ∣ X * c.2 - Y * c.1 := by
        rw [show X * c.2 - Y * c.1 = (X - c.1) * c.2 - (Y - c.2) * c.1 by grind]
        exact Int.dvd_sub (Int.dvd_mul_of_dvd_left a1) (Int.dvd_mul_of_dvd_left a2)
      rw [e1, e2, show p * s * c.2 - q * s * c.1 = s * (p * c.2 - q * c.1) by grind] at h5
      exact (pow_cop hp.2 ns).mp h5
def fs_fraction_in (K : PySem.W.Frag) : FS := fun ws μ R X => ∃ (cs : List (Int × Int)) (n : Int), ws = [.dat (.tup (cs.map prD)), .i n] ∧ (n < 1 ∨ n > 900 → X (.ref (He.ga K "OutOfRange")) [("name", .str "n")] μ) ∧ (1 ≤ n → n ≤ 900 → ItR (pf n) cs ∧ ∀ d, FrI n cs d → R (.dat d) μ)
theorem itm_bd {p : Int} {e : Nat} {c : Int × Int} (h : Itm p e c) (hP : p ^ e ≤ 900) : Bd 100000 c.1 ∧ Bd 100000 c.2 := by
  have e1 : ∀ x : Int, 0 ≤ x → x ≤ 900 → Bd 100000 x := fun x a b => Bd.up (n := 10) ⟨by omega⟩ (by decide)
  rcases h with ⟨a, b, c⟩ | ⟨a, b, c, _⟩
  · exact ⟨e1 _ b (by omega), e1 _ (by omega) (by omega)⟩
  · exact ⟨e1 _ (by omega) (by omega), e1 _ b (by omega)⟩
theorem fn_fraction_in (B : Base P w K mg base) : Fn P w K mg base "fraction_in" 6 ["c", "n"] (fs_fraction_in K) := by
  have F_check_modulus := fn_check_modulus B
  have F_lowest := fn_lowest B
  have F_raised := fn_raised B
  have F_combine := fn_combine B
  have F_prime_parts := fn_prime_parts B
  refine fn_mk (st := s_fraction_in) (gl_fraction_in B) (df_fraction_in B) sc_fraction_in (fun ws μ R X h => (by first | exact h.1 | (obtain ⟨_, rfl, _⟩ := h; rfl) | (obtain ⟨_, _, rfl, _⟩ := h; rfl) | (obtain ⟨_, _, _, rfl, _⟩ := h; rfl) | (obtain ⟨_, _, _, _, rfl, _⟩ := h; rfl) | (obtain ⟨_, _, _, _, _, rfl, _⟩ := h; rfl) | (obtain ⟨_, _, _, _, _, _, rfl, _⟩ := h; rfl) | (obtain ⟨_, _, _, _, _, _, _, rfl, _⟩ := h; rfl) | (obtain ⟨_, _, _, _, _, _, _, _, rfl, _⟩ := h; rfl))) (fun _ _ _ _ _ _ us hl => match us, hl with | [_, _], _ => rfl) fun cdv A outer s H E hr => ⟨_, (pss_cons (ps_expr (pe_fn F_check_modulus hr (by decide) rfl (takes_of rfl rfl rfl rfl) (pa_cons pe_str (pa_cons (pv 1) (pa_cons (pe_gi (ct_GREATEST_MODULUS B)) pa_nil)))))
  (pss_cons (ps_if (pt_cmpR op_eq (pv 1) pe_int (nomark _)) (pss_one (ps_ret (pe_tup (pa_cons pe_int (pa_cons pe_int pa_nil))))) pss_nil)
  (pss_cons (ps_setLcD (i := 2) (own := [("p", 3), ("j", 4)]) rfl sc_fraction_in.nd rfl rfl (sw_true rfl rfl rfl (by decide +kernel)) (pi_list (pe_ix ix_seq (pe_fn F_prime_parts hr (by decide) rfl (takes_of rfl rfl rfl rfl) (pa_cons (pv 1) pa_nil)) pe_int (fun _ _ => rfl))) (blkOk_by (own := [("p", 3), ("j", 4)]) (N := ["c", "n", "powers", "p", "j", "x", "item", "power", "y"]) (sc := defScope s_fraction_in) (by decide +kernel)) (fun _ _ _ _ _ => (pg_tup (n := 2) (by rfl) (pgs_cons (pg_name (i := 3) sc_fraction_in.nd rfl (Or.inl rfl)) (pgs_cons (pg_name (i := 4) sc_fraction_in.nd rfl (Or.inl rfl)) pgs_nil)))) (fun _ _ _ _ _ => pts_nil) (fun _ _ _ _ _ => (pe_fn F_raised hr (by decide) rfl takes_no (pa_cons (pv 3) (pa_cons (pv 4) pa_nil)))) (by intro _; rfl) (by intro _ _ _ _ _; (try dsimp only [Cx.blk, cxOf]) <;> exact rfl) (by intro _ _ _ _ _; (try dsimp only [Cx.blk, cxOf]) <;> exact rfl) (by intro _ _ _ _ _; (try dsimp only [Cx.blk, cxOf]) <;> exact rfl))
  (pss_cons (ps_set (i := 5) sc_fraction_in.nd rfl (Or.inl rfl) (pe_ix ix_seq (pe_fn F_combine hr (by decide) rfl (takes_of rfl rfl rfl rfl) (pa_cons (pe_lcD (own := [("item", 6), ("power", 7)]) rfl sc_fraction_in.nd (pi_zipK rfl (fr_zip B) (pa_cons (pv 0) (pa_cons (pv 2) pa_nil))) (blkOk_by (own := [("item", 6), ("power", 7)]) (N := ["c", "n", "powers", "p", "j", "x", "item", "power", "y"]) (sc := defScope s_fraction_in) (by decide +kernel)) (fun _ _ _ _ _ => (pg_tup (n := 2) (by rfl) (pgs_cons (pg_name (i := 6) sc_fraction_in.nd rfl (Or.inl rfl)) (pgs_cons (pg_name (i := 7) sc_fraction_in.nd rfl (Or.inl rfl)) pgs_nil)))) (fun _ _ _ _ _ => pts_nil) (fun _ _ _ _ _ => (pe_tup (pa_cons (pe_ix ix_seq (pv 6) pe_int (fun _ _ => rfl)) (pa_cons (pv 7) pa_nil)))) (by intro _; rfl) (by intro _ _ _ _ _; (try dsimp only [Cx.blk, cxOf]) <;> exact rfl) (by intro _ _ _ _ _; (try dsimp only [Cx.blk, cxOf]) <;> exact rfl) (by intro _ _ _ _ _; (try dsimp only [Cx.blk, cxOf]) <;> exact rfl)) pa_nil)) pe_int (fun _ _ => rfl)))
  (pss_cons (ps_set (i := 8) sc_fraction_in.nd rfl (Or.inl rfl) (pe_ix ix_seq (pe_fn F_combine hr (by decide) rfl (takes_of rfl rfl rfl rfl) (pa_cons (pe_lcD (own := [("item", 6), ("power", 7)]) rfl sc_fraction_in.nd (pi_zipK rfl (fr_zip B) (pa_cons (pv 0) (pa_cons (pv 2) pa_nil))) (blkOk_by (own := [("item", 6), ("power", 7)]) (N := ["c", "n", "powers", "p", "j", "x", "item", "power", "y"]) (sc := defScope s_fraction_in) (by decide +kernel)) (fun _ _ _ _ _ => (pg_tup (n := 2) (by rfl) (pgs_cons (pg_name (i := 6) sc_fraction_in.nd rfl (Or.inl rfl)) (pgs_cons (pg_name (i := 7) sc_fraction_in.nd rfl (Or.inl rfl)) pgs_nil)))) (fun _ _ _ _ _ => pts_nil) (fun _ _ _ _ _ => (pe_tup (pa_cons (pe_ix ix_seq (pv 6) pe_int (fun _ _ => rfl)) (pa_cons (pv 7) pa_nil)))) (by intro _; rfl) (by intro _ _ _ _ _; (try dsimp only [Cx.blk, cxOf]) <;> exact rfl) (by intro _ _ _ _ _; (try dsimp only [Cx.blk, cxOf]) <;> exact rfl) (by intro _ _ _ _ _; (try dsimp only [Cx.blk, cxOf]) <;> exact rfl)) pa_nil)) pe_int (fun _ _ => rfl)))
  (pss_one (ps_ret (pe_fn F_lowest hr (by decide) rfl (takes_of rfl rfl rfl rfl) (pa_cons (pv 5) (pa_cons (pv 8) pa_nil)))))))))), fun ws μ R X h => ?_⟩
  obtain ⟨cs, n, rfl, hX, hR⟩ := h
  change RS _ _ [some _, some _, none, none, none, none, none, none, none] _ _
  (try dsimp only [cxOf])
  wtm_at "go"
  refine rs_drop ?_
  wtm_at "go"
  refine callF1 ⟨"n", n, 900, rfl, hX, fun n1 n2 => ?_⟩
  obtain ⟨hc, hR⟩ := hR n1 n2
  have ok := pf_ok n1 n2
  have hln := pf_len n1 n2
  have hcl := hc.1
  wtm_at "nx"
  refine rs_ifv (by wtm_at "vt") ?_ ?_
  · intro hb; (try simp only [decide_eq_true_eq, decide_eq_false_iff_not, Bool.not_eq_true', Bool.and_eq_true, Bool.or_eq_true, Bool.not_eq_false', Bool.and_eq_false_imp, Bool.or_eq_false_iff, Bool.not_true, Bool.not_false] at hb)
    wtm_at "go"
    exact hR _ (.inl ⟨hb, rfl⟩)
  intro hb; (try simp only [decide_eq_true_eq, decide_eq_false_iff_not, Bool.not_eq_true', Bool.and_eq_true, Bool.or_eq_true, Bool.not_eq_false', Bool.and_eq_false_imp, Bool.or_eq_false_iff, Bool.not_true, Bool.not_false] at hb)
  wtm_at "nx"
  refine rs_asg (re_lcB (pf n) prD (fun q => .int (q.1 ^ q.2.toNat)) (ri_list (re_frz ?_)))
  wtm_at "go"
  refine callF1 ⟨n, rfl, fun z => by omega, fun _ l => ?_⟩
  wtm_at "go"
  refine ⟨0, l, (pf n).map prD, rfl, rfl, _, rfl, rfl, by omega, ?_, dl_f (undat_map _) (len_ok (by rw [List.length_map]; omega)) (rg_name rfl ?_)⟩
  · rintro ⟨p, e⟩ hq
    obtain ⟨hp, he1, he2, _⟩ := ok.m _ hq
    dsimp only at hp he1 he2
    refine rgw_tup rfl (rgws_cons (rgw_name (by decide) rfl (rgws_cons (rgw_name (by decide) rfl (rgws_nil ⟨rfl, ?_⟩)))))
    wtm_at "go"
    exact callF1 ⟨p, e, 10, rfl, hp.bd, fun z => by omega, fun _ _ => ⟨by omega, rfl, rfl⟩⟩
  dsimp only [List.set_cons_zero, List.set_cons_succ, List.eraseIdx]
  have hzl : (cs.zip (pf n)).length ≤ 9 := by rw [List.length_zip]; omega
  have mem : ∀ q ∈ cs.zip (pf n), ∃ i : Nat, cs[i]? = some q.1 ∧ (pf n)[i]? = some q.2 := fun q hq => by
    obtain ⟨i, hi, rfl⟩ := List.mem_iff_getElem.mp hq
    rw [List.length_zip] at hi
    exact ⟨i, by rw [List.getElem_zip]; exact List.getElem?_eq_getElem _, by rw [List.getElem_zip]; exact List.getElem?_eq_getElem _⟩
  have pw9 : ∀ q ∈ cs.zip (pf n), q.2.1 ^ q.2.2.toNat ≤ 900 ∧ 1 ≤ q.2.1 ^ q.2.2.toNat ∧ Bd 100000 q.1.1 ∧ Bd 100000 q.1.2 := fun q hq => by
    obtain ⟨i, a, b⟩ := mem q hq
    obtain ⟨hp, he, _, hdv⟩ := ok.m _ (List.mem_of_getElem? b)
    obtain ⟨a1, a2, _, _⟩ := pow_le900 n1 n2 hp.2.1 hdv
    have := itm_bd (hc.2 i _ _ b a) a2
    exact ⟨a2, a1, this⟩
  wtm_at "go"
  refine re_lcB (cs.zip (pf n)) (fun q => .tup [prD q.1, .int (q.2.1 ^ q.2.2.toNat)]) (fun q => prD (q.1.1, q.2.1 ^ q.2.2.toNat)) (ri_zipK (ra_v (by wtm_at "va") ⟨_, _, _, _, rfl, rfl, rfl, zpd_map _ _ _ _, by omega, ?_, ?_⟩))
  · rintro ⟨⟨a, b⟩, ⟨p, e⟩⟩ hq
    dsimp only [prD]
    refine rgw_tup rfl (rgws_cons (rgw_name (by decide) rfl (rgws_cons (rgw_name (by decide) rfl (rgws_nil ⟨rfl, ?_⟩)))))
    wtm_at "go"
    exact ⟨rfl, rfl⟩
  refine dl_f (undat_map _) (len_ok (by rw [List.length_map]; omega)) ?_
  obtain ⟨o1, o2⟩ := rw_comb n1 n2 (rw_snd (·.1) (ps := pf n) hcl)
  obtain ⟨o3, o4⟩ := rw_comb n1 n2 (rw_snd (·.2) (ps := pf n) hcl)
  wtm_at "go"
  refine callF1 ⟨_, rwX (pf n) cs, 11, rfl, by unfold rwX; rw [List.map_map]; rfl, fun q hq => ?_, fun q hq => ?_, ?_, fun z => absurd o1 z, fun _ X x0 x1 hx => ?_⟩
  · obtain ⟨f, hf, rfl⟩ := List.mem_map.mp hq
    obtain ⟨a1, a2, _⟩ := pw9 f hf
    exact ⟨by dsimp only; omega⟩
  · obtain ⟨f, hf, rfl⟩ := List.mem_map.mp hq
    exact (pw9 f hf).2.2.1
  · unfold rwX; rw [List.length_map]; omega
  rw [show prodM (rwX (pf n) cs) = n from o2] at x1 ⊢
  wtm_at "go"
  refine re_lcB (cs.zip (pf n)) (fun q => .tup [prD q.1, .int (q.2.1 ^ q.2.2.toNat)]) (fun q => prD (q.1.2, q.2.1 ^ q.2.2.toNat)) (ri_zipK (ra_v (by wtm_at "va") ⟨_, _, _, _, rfl, rfl, rfl, zpd_map _ _ _ _, by omega, ?_, ?_⟩))
  · rintro ⟨⟨a, b⟩, ⟨p, e⟩⟩ hq
    dsimp only [prD]
    refine rgw_tup rfl (rgws_cons (rgw_name (by decide) rfl (rgws_cons (rgw_name (by decide) rfl (rgws_nil ⟨rfl, ?_⟩)))))
    wtm_at "go"
    exact ⟨rfl, rfl⟩
  refine dl_f (undat_map _) (len_ok (by rw [List.length_map]; omega)) ?_
  wtm_at "go"
  refine callF1 ⟨_, rwY (pf n) cs, 11, rfl, by unfold rwY; rw [List.map_map]; rfl, fun q hq => ?_, fun q hq => ?_, ?_, fun z => absurd o3 z, fun _ Y y0 y1 hy => ?_⟩
  · obtain ⟨f, hf, rfl⟩ := List.mem_map.mp hq
    obtain ⟨a1, a2, _⟩ := pw9 f hf
    exact ⟨by dsimp only; omega⟩
  · obtain ⟨f, hf, rfl⟩ := List.mem_map.mp hq
    exact (pw9 f hf).2.2.2
  · unfold rwY; rw [List.length_map]; omega
  rw [show prodM (rwY (pf n) cs) = n from o4] at y1 ⊢
  have crt : CrtI n cs X Y := ⟨x0, x1, y0, y1, fun i q c a b => by
    have hm : (c, q) ∈ cs.zip (pf n) := by
      have h1 := (List.getElem?_eq_some_iff.mp a).1
      have h2 := (List.getElem?_eq_some_iff.mp b).1
      refine List.mem_iff_getElem?.mpr ⟨i, ?_⟩
      rw [List.getElem?_zip_eq_some]
      exact ⟨b, a⟩
    exact ⟨hx (c.1, q.1 ^ q.2.toNat) (List.mem_map.mpr ⟨_, hm, rfl⟩), hy (c.2, q.1 ^ q.2.toNat) (List.mem_map.mpr ⟨_, hm, rfl⟩)⟩⟩
  have hnz := crt.nz (by omega) n2 hc
  wtm_at "go"
  exact callF1 ⟨X, Y, rfl, Bd.up (n := 10) ⟨by omega⟩ (by decide), Bd.up (n := 10) ⟨by omega⟩ (by decide), fun z => absurd z hnz, fun _ => hR _ (.inr ⟨hb, X, Y, crt, rfl⟩)⟩

/-! class_at: the class of a fraction modulo a power of a prime -/
def fs_class_at : FS := fun ws μ R _ => ∃ (x y p : Int) (j : Nat), ws = [.dat (.tup [.int x, .int y]), .i p, .i (j : Int)] ∧ OkP p ∧ j ≤ 700 ∧ Int.gcd x y = 1 ∧ Bd 8000 x ∧ Bd 8000 y ∧ ∀ c0 c1, Cls x y p j c0 c1 → R (.dat (.tup [.int c0, .int c1])) μ
theorem fn_class_at (B : Base P w K mg base) : Fn P w K mg base "class_at" 4 ["f", "p", "j"] fs_class_at := by
  have F_raised := fn_raised B
  have F_inverse_modulo := fn_inverse_modulo B
  refine fn_mk (st := s_class_at) (gl_class_at B) (df_class_at B) sc_class_at (fun ws μ R X h => (by first | exact h.1 | (obtain ⟨_, rfl, _⟩ := h; rfl) | (obtain ⟨_, _, rfl, _⟩ := h; rfl) | (obtain ⟨_, _, _, rfl, _⟩ := h; rfl) | (obtain ⟨_, _, _, _, rfl, _⟩ := h; rfl) | (obtain ⟨_, _, _, _, _, rfl, _⟩ := h; rfl) | (obtain ⟨_, _, _, _, _, _, rfl, _⟩ := h; rfl) | (obtain ⟨_, _, _, _, _, _, _, rfl, _⟩ := h; rfl) | (obtain ⟨_, _, _, _, _, _, _, _, rfl, _⟩ := h; rfl))) (fun _ _ _ _ _ _ us hl => match us, hl with | [_, _, _], _ => rfl) fun cdv A outer s H E hr => ⟨_, (pss_cons (ps_if (pt_cmpR op_eq (pv 2) pe_int (nomark _)) (pss_one (ps_ret (pe_glob (v := .ref (He.ga K "ALL_FRACTIONS")) rfl (gl_ALL_FRACTIONS B) rfl))) pss_nil)
  (pss_cons (ps_asg (pv 0) (pg_tup (n := 2) (by rfl) (pgs_cons (pg_name (i := 3) sc_class_at.nd rfl (Or.inl rfl)) (pgs_cons (pg_name (i := 4) sc_class_at.nd rfl (Or.inl rfl)) pgs_nil))))
  (pss_cons (ps_set (i := 5) sc_class_at.nd rfl (Or.inl rfl) (pe_fn F_raised hr (by decide) rfl (takes_of rfl rfl rfl rfl) (pa_cons (pv 1) (pa_cons (pv 2) pa_nil))))
  (pss_cons (ps_if (pt_cmpR op_ne (pe_op op_mod (pv 4) (pv 1)) pe_int (nomark _)) (pss_one (ps_ret (pe_tup (pa_cons (pe_op op_mod (pe_op op_mulW (pv 3) (pe_fn F_inverse_modulo hr (by decide) rfl (takes_of rfl rfl rfl rfl) (pa_cons (pv 4) (pa_cons (pv 5) pa_nil)))) (pv 5)) (pa_cons pe_int pa_nil))))) pss_nil)
  (pss_one (ps_ret (pe_tup (pa_cons pe_int (pa_cons (pe_op op_mod (pe_op op_mulW (pv 4) (pe_fn F_inverse_modulo hr (by decide) rfl (takes_of rfl rfl rfl rfl) (pa_cons (pv 3) (pa_cons (pv 5) pa_nil)))) (pv 5)) pa_nil))))))))), fun ws μ R X h => ?_⟩
  obtain ⟨x, y, p, j, rfl, hp, hj, hg, hx, hy, hR⟩ := h
  change RS _ _ [some _, some _, some _, none, none, none] _ _
  (try dsimp only [cxOf])
  have hp2 : 2 ≤ p := hp.2.1
  wtm_at "go"
  refine rs_ifv (by wtm_at "vt") ?_ ?_
  · intro z; (try simp only [decide_eq_true_eq, decide_eq_false_iff_not, Bool.not_eq_true', Bool.and_eq_true, Bool.or_eq_true, Bool.not_eq_false', Bool.and_eq_false_imp, Bool.or_eq_false_iff, Bool.not_true, Bool.not_false] at z)
    wtm_at "go"
    exact hR 0 0 (.inl ⟨by omega, rfl, rfl⟩)
  intro z; (try simp only [decide_eq_true_eq, decide_eq_false_iff_not, Bool.not_eq_true', Bool.and_eq_true, Bool.or_eq_true, Bool.not_eq_false', Bool.and_eq_false_imp, Bool.or_eq_false_iff, Bool.not_true, Bool.not_false] at z)
  wtm_at "go"
  refine rg_tup rfl (rgs_cons (rg_name rfl (rgs_cons (rg_name rfl (rgs_nil ?_)))))
  dsimp only [List.set_cons_zero, List.set_cons_succ]
  wtm_at "go"
  refine callF1 ⟨p, j, 10, rfl, hp.bd, fun q => by omega, fun _ _ => ⟨by omega, ?_⟩⟩
  rw [Int.toNat_natCast]
  have hP1 := pow_one_le hp2 j
  have hPb := hp.pow hj
  have hpP : p ∣ p ^ j := pow_dvd1 p (by omega)
  wtm_at "go"
  refine rs_ifv (by wtm_at "vt") ?_ ?_
  · intro q; (try simp only [decide_eq_true_eq, decide_eq_false_iff_not, Bool.not_eq_true', Bool.and_eq_true, Bool.or_eq_true, Bool.not_eq_false', Bool.and_eq_false_imp, Bool.or_eq_false_iff, Bool.not_true, Bool.not_false] at q)
    wtm_at "go"
    refine callF1 ⟨y, p ^ j, rfl, hP1, hPb.up (by decide), isP_pow_gcd hp.2 (fun h => q (Int.emod_eq_zero_of_dvd h)) j, fun t t0 t1 ht => ?_⟩
    have tb : Bd 7001 t := hPb.le (by omega)
    have hc : CMulW x t := cmulw hx tb (by decide)
    wtm_at "go"
    refine hR _ _ (.inr (.inl ⟨by omega, rfl, Int.emod_nonneg _ (by omega), Int.emod_lt_of_pos _ (by omega), ?_⟩))
    have h1 : p ^ j ∣ x * t - x * t % p ^ j := Int.dvd_self_sub_emod
    have h2 := Int.dvd_mul_of_dvd_right (b := y) h1
    have h3 := Int.dvd_mul_of_dvd_right (b := x) ht
    have h4 := Int.dvd_sub h2 h3
    rw [show y * (x * t - x * t % p ^ j) - x * (t * y - 1) = x - y * (x * t % p ^ j) by grind] at h4
    exact h4
  · intro q; (try simp only [decide_eq_true_eq, decide_eq_false_iff_not, Bool.not_eq_true', Bool.and_eq_true, Bool.or_eq_true, Bool.not_eq_false', Bool.and_eq_false_imp, Bool.or_eq_false_iff, Bool.not_true, Bool.not_false] at q)
    wtm_at "go"
    have hx1 : ¬ p ∣ x := fun h => by
      have h1 := Int.dvd_coe_gcd h (Int.dvd_of_emod_eq_zero q)
      rw [hg] at h1
      have := Int.le_of_dvd (by decide) h1
      omega
    refine callF1 ⟨x, p ^ j, rfl, hP1, hPb.up (by decide), isP_pow_gcd hp.2 hx1 j, fun t t0 t1 ht => ?_⟩
    have tb : Bd 7001 t := hPb.le (by omega)
    have hc : CMulW y t := cmulw hy tb (by decide)
    wtm_at "go"
    have h1 : p ^ j ∣ y * t - y * t % p ^ j := Int.dvd_self_sub_emod
    refine hR _ _ (.inr (.inr ⟨by omega, rfl, Int.emod_nonneg _ (by omega), Int.emod_lt_of_pos _ (by omega), ?_, ?_⟩))
    · have h2 := Int.dvd_sub (Int.dvd_mul_of_dvd_left (c := t) (Int.dvd_of_emod_eq_zero q)) (Int.dvd_trans hpP h1)
      rw [show y * t - (y * t - y * t % p ^ j) = y * t % p ^ j by omega] at h2
      exact h2
    · have h2 := Int.dvd_mul_of_dvd_right (b := x) h1
      have h3 := Int.dvd_mul_of_dvd_right (b := y) ht
      have h4 := Int.dvd_sub h3 h2
      rw [show y * (t * x - 1) - x * (y * t - y * t % p ^ j) = x * (y * t % p ^ j) - y by grind] at h4
      exact h4

/-! class_modulo: the class of a fraction modulo a number -/
def fs_class_modulo (K : PySem.W.Frag) : FS := fun ws μ R X => ∃ (x y n : Int), ws = [.dat (.tup [.int x, .int y]), .i n] ∧ (n < 1 ∨ n > 900 → X (.ref (He.ga K "OutOfRange")) [("name", .str "n")] μ) ∧ (1 ≤ n → n ≤ 900 → Int.gcd x y = 1 ∧ Bd 8000 x ∧ Bd 8000 y ∧ ∀ cs, ClsM x y n cs → R (.dat (.tup (cs.map prD))) μ)
theorem fn_class_modulo (B : Base P w K mg base) : Fn P w K mg base "class_modulo" 6 ["f", "n"] (fs_class_modulo K) := by
  have F_check_modulus := fn_check_modulus B
  have F_class_at := fn_class_at B
  have F_prime_parts := fn_prime_parts B
  refine fn_mk (st := s_class_modulo) (gl_class_modulo B) (df_class_modulo B) sc_class_modulo (fun ws μ R X h => (by first | exact h.1 | (obtain ⟨_, rfl, _⟩ := h; rfl) | (obtain ⟨_, _, rfl, _⟩ := h; rfl) | (obtain ⟨_, _, _, rfl, _⟩ := h; rfl) | (obtain ⟨_, _, _, _, rfl, _⟩ := h; rfl) | (obtain ⟨_, _, _, _, _, rfl, _⟩ := h; rfl) | (obtain ⟨_, _, _, _, _, _, rfl, _⟩ := h; rfl) | (obtain ⟨_, _, _, _, _, _, _, rfl, _⟩ := h; rfl) | (obtain ⟨_, _, _, _, _, _, _, _, rfl, _⟩ := h; rfl))) (fun _ _ _ _ _ _ us hl => match us, hl with | [_, _], _ => rfl) fun cdv A outer s H E hr => ⟨_, (pss_cons (ps_expr (pe_fn F_check_modulus hr (by decide) rfl (takes_of rfl rfl rfl rfl) (pa_cons pe_str (pa_cons (pv 1) (pa_cons (pe_gi (ct_GREATEST_MODULUS B)) pa_nil)))))
  (pss_one (ps_ret (pe_callTy cr_tupleOf (by rfl) (fr_tuple B) (by decide +kernel) (pa_cons (pe_lcD (own := [("p", 2), ("j", 3)]) rfl sc_class_modulo.nd (pi_list (pe_ix ix_seq (pe_fn F_prime_parts hr (by decide) rfl (takes_of rfl rfl rfl rfl) (pa_cons (pv 1) pa_nil)) pe_int (fun _ _ => rfl))) (blkOk_by (own := [("p", 2), ("j", 3)]) (N := ["f", "n", "p", "j"]) (sc := defScope s_class_modulo) (by decide +kernel)) (fun _ _ _ _ _ => (pg_tup (n := 2) (by rfl) (pgs_cons (pg_name (i := 2) sc_class_modulo.nd rfl (Or.inl rfl)) (pgs_cons (pg_name (i := 3) sc_class_modulo.nd rfl (Or.inl rfl)) pgs_nil)))) (fun _ _ _ _ _ => pts_nil) (fun _ _ _ _ _ => (pe_fn F_class_at hr (by decide) rfl takes_no (pa_cons (pv 0) (pa_cons (pv 2) (pa_cons (pv 3) pa_nil))))) (by intro _; rfl) (by intro _ _ _ _ _; (try dsimp only [Cx.blk, cxOf]) <;> exact rfl) (by intro _ _ _ _ _; (try dsimp only [Cx.blk, cxOf]) <;> exact rfl) (by intro _ _ _ _ _; (try dsimp only [Cx.blk, cxOf]) <;> exact rfl)) pa_nil))))), fun ws μ R X h => ?_⟩
  obtain ⟨x, y, n, rfl, hX, hR⟩ := h
  change RS _ _ [some _, some _, none, none] _ _
  (try dsimp only [cxOf])
  wtm_at "go"
  refine rs_drop ?_
  wtm_at "go"
  refine callF1 ⟨"n", n, 900, rfl, hX, fun n1 n2 => ?_⟩
  obtain ⟨hg, hx, hy, hR⟩ := hR n1 n2
  have ok := pf_ok n1 n2
  wtm_at "go"
  refine re_lc (ri_list (re_frz ?_))
  wtm_at "go"
  refine callF1 ⟨n, rfl, fun z => by omega, fun _ l => ?_⟩
  wtm_at "go"
  refine ⟨0, l, (pf n).map prD, rfl, rfl, _, rfl, fun i acc μ' => ∃ cs : List (Int × Int), acc = (cs.map prD).map .dat ∧ μ = μ' ∧ cs.length = i ∧ ∀ (k : Nat) (q c : Int × Int), (pf n)[k]? = some q → cs[k]? = some c → Cls x y q.1 q.2.toNat c.1 c.2, ⟨[], rfl, rfl, rfl, fun k q c _ h => by simp at h⟩, ?_, ?_⟩
  · rintro i d acc _ hd hl ⟨cs, rfl, rfl, hcl, hcs⟩
    rw [List.getElem?_map] at hd
    obtain ⟨⟨p, e⟩, hq, rfl⟩ := Option.map_eq_some_iff.mp hd
    obtain ⟨hp, he1, he2, hdv⟩ := ok.m _ (List.mem_of_getElem? hq)
    dsimp only at hp he1 he2 hdv
    have hil := (List.getElem?_eq_some_iff.mp hq).1
    have hln := ok.l
    refine rgw_tup rfl (rgws_cons (rgw_name (by decide) rfl (rgws_cons (rgw_name (by decide) rfl (rgws_nil (rt_v vt_yes ⟨fun _ => ?_, fun z => by cases z⟩))))))
    wtm_at "go"
    refine callF1 ⟨x, y, p, e.toNat, by rw [Int.toNat_of_nonneg (by omega)], hp, by omega, hg, hx, hy, fun c0 c1 hc => ?_⟩
    refine ⟨len_lt (by rw [List.length_map, List.length_map]; omega), cs ++ [(c0, c1)], by rw [List.map_append, List.map_append]; rfl, rfl, by rw [List.length_append, hcl]; rfl, fun k q c h1 h2 => ?_⟩
    rcases Nat.lt_or_ge k cs.length with h | h
    · rw [List.getElem?_append_left h] at h2
      exact hcs k q c h1 h2
    · rw [List.getElem?_append_right h] at h2
      have hk : k = i := by
        have := (List.getElem?_eq_some_iff.mp h2).1
        rw [List.length_singleton] at this
        omega
      subst hk
      rw [show k - cs.length = 0 by omega] at h2
      cases h2
      rw [hq] at h1
      cases h1
      exact hc
  · rintro acc _ _ ⟨cs, rfl, rfl, hcl, hcs⟩
    rw [List.length_map] at hcl
    have hln := ok.l
    refine dl_f (undat_map _) (len_ok (by rw [List.length_map]; omega)) ?_
    wtm_at "go"
    refine rc_tupF ?_
    exact hR cs ⟨hcl, hcs⟩

/-! class_total: how many classes there are -/
def fs_class_total (K : PySem.W.Frag) : FS := fun ws μ R X => ∃ n : Int, ws = [.i n] ∧ (n < 1 ∨ n > 900 → X (.ref (He.ga K "OutOfRange")) [("name", .str "n")] μ) ∧ (1 ≤ n → n ≤ 900 → R (.i (totP (pf n))) μ)
theorem fn_class_total (B : Base P w K mg base) : Fn P w K mg base "class_total" 6 ["n"] (fs_class_total K) := by
  have F_check_modulus := fn_check_modulus B
  have F_prime_parts := fn_prime_parts B
  have F_raised := fn_raised B
  refine fn_mk (st := s_class_total) (gl_class_total B) (df_class_total B) sc_class_total (fun ws μ R X h => (by first | exact h.1 | (obtain ⟨_, rfl, _⟩ := h; rfl) | (obtain ⟨_, _, rfl, _⟩ := h; rfl) | (obtain ⟨_, _, _, rfl, _⟩ := h; rfl) | (obtain ⟨_, _, _, _, rfl, _⟩ := h; rfl) | (obtain ⟨_, _, _, _, _, rfl, _⟩ := h; rfl) | (obtain ⟨_, _, _, _, _, _, rfl, _⟩ := h; rfl) | (obtain ⟨_, _, _, _, _, _, _, rfl, _⟩ := h; rfl) | (obtain ⟨_, _, _, _, _, _, _, _, rfl, _⟩ := h; rfl))) (fun _ _ _ _ _ _ us hl => match us, hl with | [_], _ => rfl) fun cdv A outer s H E hr => ⟨_, (pss_cons (ps_expr (pe_fn F_check_modulus hr (by decide) rfl (takes_of rfl rfl rfl rfl) (pa_cons pe_str (pa_cons (pv 0) (pa_cons (pe_gi (ct_GREATEST_MODULUS B)) pa_nil)))))
  (pss_cons (ps_set (i := 1) sc_class_total.nd rfl (Or.inl rfl) pe_int)
  (pss_cons (ps_for (passes_of rfl) rfl (pi_list (pe_ix ix_seq (pe_fn F_prime_parts hr (by decide) rfl (takes_of rfl rfl rfl rfl) (pa_cons (pv 0) pa_nil)) pe_int (fun _ _ => rfl))) (pg_tup (n := 2) (by rfl) (pgs_cons (pg_name (i := 2) sc_class_total.nd rfl (Or.inl rfl)) (pgs_cons (pg_name (i := 3) sc_class_total.nd rfl (Or.inl rfl)) pgs_nil))) (pss_one (ps_set (i := 1) sc_class_total.nd rfl (Or.inl rfl) (pe_op op_mulW (pv 1) (pe_op op_add (pe_fn F_raised hr (by decide) rfl (takes_of rfl rfl rfl rfl) (pa_cons (pv 2) (pa_cons (pv 3) pa_nil))) (pe_fn F_raised hr (by decide) rfl (takes_of rfl rfl rfl rfl) (pa_cons (pv 2) (pa_cons (pe_op op_sub (pv 3) pe_int) pa_nil))))))))
  (pss_one (ps_ret (pv 1)))))), fun ws μ R X h => ?_⟩
  obtain ⟨n, rfl, hX, hR⟩ := h
  change RS _ _ [some _, none, none, none] _ _
  (try dsimp only [cxOf])
  wtm_at "go"
  refine rs_drop ?_
  wtm_at "go"
  refine callF1 ⟨"n", n, 900, rfl, hX, fun n1 n2 => ?_⟩
  have hR := hR n1 n2
  have ok := pf_ok n1 n2
  wtm_at "nx"
  refine rs_asg (re_v (by wtm_at "ve") (rg_name rfl ?_))
  dsimp only [List.set_cons_zero, List.set_cons_succ]
  wtm_at "nx"
  refine rs_slot3 1 2 3 (fun o _ _ μ' => μ = μ' ∧ o = some (.i (totP (pf n)))) ?_ ?_
  · refine rs_forI3 1 2 3 (fun i o _ _ μ' => μ = μ' ∧ o = some (.i (totP ((pf n).take i)))) (ri_list (re_frz ?_))
    wtm_at "go"
    refine callF1 ⟨n, rfl, fun z => by omega, fun _ l => ?_⟩
    wtm_at "go"
    refine ⟨0, l, (pf n).map prD, rfl, rfl, _, rfl, ⟨_, _, _, rfl, rfl, rfl, rfl, by rw [List.take_zero]; rfl⟩, ?_, ?_⟩
    · rintro i d o1 o2 o3 _ hd ⟨rfl, rfl⟩
      rw [List.getElem?_map] at hd
      obtain ⟨⟨p, e⟩, hq, rfl⟩ := Option.map_eq_some_iff.mp hd
      obtain ⟨hp, he1, he2, hdv⟩ := ok.m _ (List.mem_of_getElem? hq)
      dsimp only at hp he1 he2 hdv
      have hil := (List.getElem?_eq_some_iff.mp hq).1
      have hln := ok.l
      obtain ⟨a, b, c, d⟩ := pow_le900 n1 n2 hp.2.1 hdv
      have tb := totP_bd n1 n2 i (by omega)
      have pb : Bd 10 p := ⟨by have := hp.1; have := hp.2.1; omega⟩
      have sb : Bd 11 (p ^ e.toNat + p ^ (e.toNat - 1)) := ⟨by omega⟩
      have hc : CMulW (totP ((pf n).take i)) (p ^ e.toNat + p ^ (e.toNat - 1)) := cmulw tb sb (by omega)
      refine rg_tup rfl (rgs_cons (rg_name rfl (rgs_cons (rg_name rfl (rgs_nil ?_)))))
      dsimp only [List.set_cons_zero, List.set_cons_succ]
      wtm_at "go"
      refine callF1 ⟨p, e, 10, rfl, pb, fun z => by omega, fun _ _ => ⟨by omega, ?_⟩⟩
      wtm_at "go"
      refine callF1 ⟨p, e - 1, 10, rfl, pb, fun z => by omega, fun _ _ => ⟨by omega, ?_⟩⟩
      rw [show (e - 1).toNat = e.toNat - 1 by omega]
      wtm_at "go"
      exact ⟨_, _, _, rfl, rfl, by rw [take_snoc hq, totP_snoc]⟩
    · rintro o1 o2 o3 _ ⟨rfl, rfl⟩
      rw [List.length_map, List.take_length]
      exact ⟨_, _, _, rfl, rfl, rfl⟩
  rintro _ _ _ _ ⟨rfl, rfl⟩
  dsimp only [List.set_cons_zero, List.set_cons_succ]
  wtm_at "go"
  exact hR

/-! all_classes: the list of classes, owned -/
def fs_all_classes : FS := fun ws μ R _ => ∃ (p : Int) (j : Nat), ws = [.i p, .i (j : Int)] ∧ OkP p ∧ j ≤ 700 ∧ p ^ j ≤ 2000 ∧ ∀ l, R (.at l) ((l, .lst (((clsL p j).map prD).map .dat)) :: μ)
theorem fn_all_classes (B : Base P w K mg base) : Fn P w K mg base "all_classes" 4 ["p", "j"] fs_all_classes := by
  have F_raised := fn_raised B
  refine fn_mk (st := s_all_classes) (gl_all_classes B) (df_all_classes B) sc_all_classes (fun ws μ R X h => (by first | exact h.1 | (obtain ⟨_, rfl, _⟩ := h; rfl) | (obtain ⟨_, _, rfl, _⟩ := h; rfl) | (obtain ⟨_, _, _, rfl, _⟩ := h; rfl) | (obtain ⟨_, _, _, _, rfl, _⟩ := h; rfl) | (obtain ⟨_, _, _, _, _, rfl, _⟩ := h; rfl) | (obtain ⟨_, _, _, _, _, _, rfl, _⟩ := h; rfl) | (obtain ⟨_, _, _, _, _, _, _, rfl, _⟩ := h; rfl) | (obtain ⟨_, _, _, _, _, _, _, _, rfl, _⟩ := h; rfl))) (fun _ _ _ _ _ _ us hl => match us, hl with | [_, _], _ => rfl) fun cdv A outer s H E hr => ⟨_, (pss_cons (ps_if (pt_cmpR op_eq (pv 1) pe_int (nomark _)) (pss_one (ps_ret (pe_lst (pa_cons (pe_glob (v := .ref (He.ga K "ALL_FRACTIONS")) rfl (gl_ALL_FRACTIONS B) rfl) pa_nil)))) pss_nil)
  (pss_cons (ps_set (i := 2) sc_all_classes.nd rfl (Or.inl rfl) (pe_fn F_raised hr (by decide) rfl (takes_of rfl rfl rfl rfl) (pa_cons (pv 0) (pa_cons (pv 1) pa_nil))))
  (pss_one (ps_ret (pe_op op_cat (pe_lcD (own := [("r", 3)]) rfl sc_all_classes.nd (pi_range1 rfl (fr_range B) (pa_cons (pv 2) pa_nil)) (blkOk_by (own := [("r", 3)]) (N := ["p", "j", "power", "r", "s"]) (sc := defScope s_all_classes) (by decide +kernel)) (fun _ _ _ _ _ => (pg_name (i := 3) sc_all_classes.nd rfl (Or.inl rfl))) (fun _ _ _ _ _ => pts_nil) (fun _ _ _ _ _ => (pe_tup (pa_cons (pv 3) (pa_cons pe_int pa_nil)))) (by intro _; rfl) (by intro _ _ _ _ _; (try dsimp only [Cx.blk, cxOf]) <;> exact rfl) (by intro _ _ _ _ _; (try dsimp only [Cx.blk, cxOf]) <;> exact rfl) (by intro _ _ _ _ _; (try dsimp only [Cx.blk, cxOf]) <;> exact rfl)) (pe_lcD (own := [("s", 4)]) rfl sc_all_classes.nd (pi_range3 rfl (fr_range B) (pa_cons pe_int (pa_cons (pv 2) (pa_cons (pv 0) pa_nil)))) (blkOk_by (own := [("s", 4)]) (N := ["p", "j", "power", "r", "s"]) (sc := defScope s_all_classes) (by decide +kernel)) (fun _ _ _ _ _ => (pg_name (i := 4) sc_all_classes.nd rfl (Or.inl rfl))) (fun _ _ _ _ _ => pts_nil) (fun _ _ _ _ _ => (pe_tup (pa_cons pe_int (pa_cons (pv 4) pa_nil)))) (by intro _; rfl) (by intro _ _ _ _ _; (try dsimp only [Cx.blk, cxOf]) <;> exact rfl) (by intro _ _ _ _ _; (try dsimp only [Cx.blk, cxOf]) <;> exact rfl) (by intro _ _ _ _ _; (try dsimp only [Cx.blk, cxOf]) <;> exact rfl))))))), fun ws μ R X h => ?_⟩
  obtain ⟨p, j, rfl, hp, hj, hP, hR⟩ := h
  change RS _ _ [some _, some _, none, none, none] _ _
  (try dsimp only [cxOf])
  have hp2 : 2 ≤ p := hp.2.1
  wtm_at "go"
  refine rs_ifv (by wtm_at "vt") ?_ ?_
  · intro z; (try simp only [decide_eq_true_eq, decide_eq_false_iff_not, Bool.not_eq_true', Bool.and_eq_true, Bool.or_eq_true, Bool.not_eq_false', Bool.and_eq_false_imp, Bool.or_eq_false_iff, Bool.not_true, Bool.not_false] at z)
    have z : j = 0 := by omega
    subst z
    wtm_at "go"
    refine re_lst ?_
    wtm_at "go"
    exact dl_o (by wtm_at "sz") hR
  intro z; (try simp only [decide_eq_true_eq, decide_eq_false_iff_not, Bool.not_eq_true', Bool.and_eq_true, Bool.or_eq_true, Bool.not_eq_false', Bool.and_eq_false_imp, Bool.or_eq_false_iff, Bool.not_true, Bool.not_false] at z)
  wtm_at "go"
  refine callF1 ⟨p, j, 10, rfl, hp.bd, fun q => by omega, fun _ _ => ⟨by omega, ?_⟩⟩
  rw [Int.toNat_natCast]
  have hP1 := pow_one_le hp2 j
  wtm_at "rx"
  refine rs_ret (re_sub ?_)
  obtain ⟨N, hN⟩ : ∃ N : Nat, p ^ j = (N : Int) := ⟨(p ^ j).toNat, by rw [Int.toNat_of_nonneg (by omega)]⟩
  wtm_at "go"
  refine re_lcN (fun d => .tup [d, .int 1]) (ri_rng1 (ra_v (by wtm_at "va") ⟨_, rfl, by omega, by omega, len_ok (by rw [rng_length]; omega), fun d hd => ?_, dl_o (len_ok (by rw [List.length_map, List.length_map, rng_length]; omega)) fun l1 => ?_⟩))
  · obtain ⟨i, _, rfl⟩ := List.mem_map.mp hd
    refine rgw_name (by decide) rfl ⟨rfl, ?_⟩
    wtm_at "go"
    exact ⟨rfl, rfl⟩
  wtm_at "go"
  refine re_lcN (fun d => .tup [.int 1, d]) (ri_rng3 (ra_v (by wtm_at "va") ⟨_, _, _, rfl, ⟨by omega, by have := hp.1; omega, by omega, by omega, by omega, by omega⟩, ?_, fun d hd => ?_, dl_o ?_ fun l2 => ?_⟩))
  · rw [rgs_prog, List.length_map]
    exact len_ok (by have := prog_length_le (lo := 0) (hi := p ^ j) (c := p) (by omega); omega)
  · obtain ⟨i, _, rfl⟩ := List.mem_map.mp hd
    refine rgw_name (by decide) rfl ⟨rfl, ?_⟩
    wtm_at "go"
    exact ⟨rfl, rfl⟩
  · rw [rgs_prog, List.length_map, List.length_map, List.length_map]
    exact len_ok (by have := prog_length_le (lo := 0) (hi := p ^ j) (c := p) (by omega); omega)
  have e1 : (rng 0 (p ^ j).toNat).map (fun d => D.tup [d, .int 1]) = ((prog 0 (p ^ j) 1).map fun r => (r, (1 : Int))).map prD := by
    rw [rng_prog, Int.toNat_of_nonneg (by omega), List.map_map, List.map_map]; rfl
  have e2 : (rgs 0 p (cnt 0 (p ^ j) p)).map (fun d => D.tup [.int 1, d]) = ((prog 0 (p ^ j) p).map fun r => ((1 : Int), r)).map prD := by
    rw [rgs_prog, List.map_map, List.map_map]; rfl
  rw [e1, e2]
  wtm_at "go"
  refine ro_catO (ka := 1) (kb := 0) rfl rfl ?_ fun l => ⟨_, .cons₂ _ (.cons _ (.cons _ (List.Sublist.refl _))), ?_⟩
  · rw [List.length_map, List.length_map, List.length_map, List.length_map, List.length_map, List.length_map]
    have h1 := prog_length_le (lo := 0) (hi := p ^ j) (c := 1) (by omega)
    have h2 := prog_length_le (lo := 0) (hi := p ^ j) (c := p) (by omega)
    exact len_ok (by omega)
  have h := hR l
  unfold clsL at h
  rw [if_neg (by omega), List.map_append, List.map_append] at h
  exact h

/-! classes_modulo: the list of all classes modulo a number -/
theorem clM_row (ps : List (Int × Int)) : ∀ i, i ≤ ps.length → ∀ row ∈ clM (ps.take i), row.length = i
  | 0, _, row, h => by
    have h : row ∈ [([] : List (Int × Int))] := h
    rw [List.mem_singleton.mp h]; rfl
  | i + 1, hi, row, h => by
    have hg : ps[i]? = some ps[i] := List.getElem?_eq_getElem (by omega)
    rw [take_snoc hg, clM_snoc] at h
    obtain ⟨r, hr, h2⟩ := List.mem_flatMap.mp h
    obtain ⟨c, _, rfl⟩ := List.mem_map.mp h2
    rw [List.length_append, clM_row ps i (by omega) r hr]; rfl
def fs_classes_modulo (K : PySem.W.Frag) : FS := fun ws μ R X => ∃ n : Int, ws = [.i n] ∧ (n < 1 ∨ n > 60 → X (.ref (He.ga K "OutOfRange")) [("name", .str "n")] μ) ∧ (1 ≤ n → n ≤ 60 → ∀ l, R (.at l) ((l, HC.lst (((clM (pf n)).map rowD).map .dat)) :: μ))
theorem fn_classes_modulo (B : Base P w K mg base) : Fn P w K mg base "classes_modulo" 6 ["n"] (fs_classes_modulo K) := by
  have F_check_modulus := fn_check_modulus B
  have F_prime_parts := fn_prime_parts B
  have F_all_classes := fn_all_classes B
  refine fn_mk (st := s_classes_modulo) (gl_classes_modulo B) (df_classes_modulo B) sc_classes_modulo (fun ws μ R X h => (by first | exact h.1 | (obtain ⟨_, rfl, _⟩ := h; rfl) | (obtain ⟨_, _, rfl, _⟩ := h; rfl) | (obtain ⟨_, _, _, rfl, _⟩ := h; rfl) | (obtain ⟨_, _, _, _, rfl, _⟩ := h; rfl) | (obtain ⟨_, _, _, _, _, rfl, _⟩ := h; rfl) | (obtain ⟨_, _, _, _, _, _, rfl, _⟩ := h; rfl) | (obtain ⟨_, _, _, _, _, _, _, rfl, _⟩ := h; rfl) | (obtain ⟨_, _, _, _, _, _, _, _, rfl, _⟩ := h; rfl))) (fun _ _ _ _ _ _ us hl => match us, hl with | [_], _ => rfl) fun cdv A outer s H E hr => ⟨_, (pss_cons (ps_expr (pe_fn F_check_modulus hr (by decide) rfl (takes_of rfl rfl rfl rfl) (pa_cons pe_str (pa_cons (pv 0) (pa_cons (pe_gi (ct_GREATEST_WHOLE_LIST B)) pa_nil)))))
  (pss_cons (ps_set (i := 1) sc_classes_modulo.nd rfl (Or.inl rfl) (pe_lst (pa_cons (pe_tup pa_nil) pa_nil)))
  (pss_cons (ps_for (passes_of rfl) rfl (pi_list (pe_ix ix_seq (pe_fn F_prime_parts hr (by decide) rfl (takes_of rfl rfl rfl rfl) (pa_cons (pv 0) pa_nil)) pe_int (fun _ _ => rfl))) (pg_tup (n := 2) (by rfl) (pgs_cons (pg_name (i := 2) sc_classes_modulo.nd rfl (Or.inl rfl)) (pgs_cons (pg_name (i := 3) sc_classes_modulo.nd rfl (Or.inl rfl)) pgs_nil))) (pss_cons (ps_set (i := 4) sc_classes_modulo.nd rfl (Or.inr rfl) (pe_fn F_all_classes hr (by decide) rfl (takes_of rfl rfl rfl rfl) (pa_cons (pv 2) (pa_cons (pv 3) pa_nil))))
  (pss_one (ps_setLc2D (i := 1) (own := [("row", 5), ("item", 6)]) (vs1 := [6]) rfl sc_classes_modulo.nd rfl rfl (sw_true rfl rfl rfl (by decide +kernel)) (pi_list (pv 1)) (blkOk_by (own := [("row", 5), ("item", 6)]) (N := ["n", "rows", "p", "j", "items_here", "row", "item"]) (sc := defScope s_classes_modulo) (by decide +kernel)) (by decide) (fun _ _ _ _ _ => (pg_name (i := 5) sc_classes_modulo.nd rfl (Or.inl rfl))) (fun _ _ _ _ _ => pts_nil) (fun _ _ _ _ _ => (pi_list (pv 4))) (fun _ _ _ _ _ => (pg_name (i := 6) sc_classes_modulo.nd rfl (Or.inl rfl))) (fun _ _ _ _ _ => pts_nil) (fun _ _ _ _ _ => (pe_op op_catA (pv 5) (pe_tup (pa_cons (pv 6) pa_nil)))) (by intro _; rfl) (by intro _ _; rfl) (by intro _ _ _ _ _; (try dsimp only [Cx.blk, cxOf]) <;> exact rfl) (by intro _ _ _ _ _; (try dsimp only [Cx.blk, cxOf]) <;> exact rfl) (by intro _ _ _ _ _; (try dsimp only [Cx.blk, cxOf]) <;> exact rfl) (by intro _ _ _ _ _; (try dsimp only [Cx.blk, cxOf]) <;> exact rfl) (by intro _ _ _ _ _; (try dsimp only [Cx.blk, cxOf]) <;> exact rfl) (by intro _ _ _ _ _; (try dsimp only [Cx.blk, cxOf]) <;> exact rfl)))))
  (pss_one (ps_ret (pv 1)))))), fun ws μ R X h => ?_⟩
  obtain ⟨n, rfl, hX, hR⟩ := h
  change RS _ _ [some _, none, none, none, none, none, none] _ _
  (try dsimp only [cxOf])
  wtm_at "go"
  refine rs_drop ?_
  wtm_at "go"
  refine callF1 ⟨"n", n, 60, rfl, hX, fun n1 n2 => ?_⟩
  have hR := hR n1 n2
  have ok := pf_ok n1 (by omega)
  wtm_at "nx"
  refine rs_asg (re_lst ?_)
  wtm_at "go"
  refine dl_o (by wtm_at "sz") fun l0 => ?_
  wtm_at "nx"
  refine rs_slot4 1 2 3 4 (fun o _ _ _ μ' => ∃ l, (l, HC.lst (((clM (pf n)).map rowD).map .dat)) :: μ = μ' ∧ o = some (.at l)) ?_ ?_
  · refine rs_forI4 1 2 3 4 (fun i o _ _ _ μ' => ∃ l, (l, HC.lst (((clM ((pf n).take i)).map rowD).map .dat)) :: μ = μ' ∧ o = some (.at l)) (ri_list (re_frz ?_))
    wtm_at "go"
    refine callF1 ⟨n, rfl, fun z => by omega, fun _ l => ?_⟩
    wtm_at "go"
    refine ⟨0, l, (pf n).map prD, rfl, rfl, _, rfl, ⟨_, _, _, _, rfl, rfl, rfl, rfl, l0, rfl, rfl⟩, ?_, ?_⟩
    · rintro i d o1 o2 o3 o4 _ hd ⟨l1, rfl, rfl⟩
      rw [List.getElem?_map] at hd
      obtain ⟨⟨p, e⟩, hq, rfl⟩ := Option.map_eq_some_iff.mp hd
      obtain ⟨hp, he1, he2, hdv⟩ := ok.m _ (List.mem_of_getElem? hq)
      dsimp only at hp he1 he2 hdv
      have hil := (List.getElem?_eq_some_iff.mp hq).1
      obtain ⟨a, b, c, d⟩ := pow_le900 n1 (by omega) hp.2.1 hdv
      have b1 := clM_len n1 n2 (i := i) (by omega)
      have b2 := clM_len n1 n2 (i := i + 1) (by omega)
      refine rg_tup rfl (rgs_cons (rg_name rfl (rgs_cons (rg_name rfl (rgs_nil ?_)))))
      dsimp only [List.set_cons_zero, List.set_cons_succ]
      wtm_at "go"
      refine callF1 ⟨p, e.toNat, by rw [Int.toNat_of_nonneg (by omega)], hp, by omega, by omega, fun l2 => ?_⟩
      refine rg_name rfl ?_
      dsimp only [List.set_cons_zero, List.set_cons_succ]
      refine rs_frz (k := 0) (j := 4) (ds := (clsL p e.toNat).map prD) rfl rfl (.at (.head _)) ?_
      dsimp only [List.set_cons_zero, List.set_cons_succ, List.eraseIdx]
      refine rs_frz (k := 0) (j := 1) (ds := (clM ((pf n).take i)).map rowD) rfl rfl (.at (.head _)) ?_
      dsimp only [List.set_cons_zero, List.set_cons_succ, List.eraseIdx]
      obtain ⟨G, hG⟩ : ∃ G : List (Int × Int) → List (List (Int × Int)), G = fun row => (clsL p e.toNat).map fun c => row ++ [c] := ⟨_, rfl⟩
      have hfin : clM ((pf n).take (i + 1)) = (clM ((pf n).take i)).flatMap G := by rw [take_snoc hq, clM_snoc, hG]
      rw [hfin] at b2 ⊢
      have hrl := clM_row (pf n) i (by omega)
      have hln := ok.l
      generalize clM ((pf n).take i) = M at b1 b2 hrl ⊢
      have hlen : ∀ k, k ≤ M.length → ((M.take k).flatMap G).length ≤ 2000 := fun k hk => by
        have e1 : M.flatMap G = (M.take k).flatMap G ++ (M.drop k).flatMap G := by rw [← List.flatMap_append, List.take_append_drop]
        rw [e1, List.length_append] at b2
        omega
      refine rs_asg (re_lc2 (ri_list (re_v (by wtm_at "ve") ⟨_, rfl, fun k acc μ' => acc = (((M.take k).flatMap G).map rowD).map .dat ∧ μ = μ', ⟨rfl, rfl⟩, ?_, ?_⟩)))
      · rintro k d acc _ hd ⟨rfl, rfl⟩
        rw [List.getElem?_map] at hd
        obtain ⟨row, hrow, rfl⟩ := Option.map_eq_some_iff.mp hd
        have hkl := (List.getElem?_eq_some_iff.mp hrow).1
        have hl1 := hlen (k + 1) (by omega)
        rw [take_snoc hrow, List.flatMap_append, List.flatMap_cons, List.flatMap_nil, List.append_nil, List.length_append] at hl1
        refine rgw_name (by decide) rfl (rt_v vt_yes ⟨fun _ => ?_, fun z => by cases z⟩)
        refine ri_list (re_v (by wtm_at "ve") ⟨_, rfl, fun t acc μ' => acc = (((M.take k).flatMap G ++ (G row).take t).map rowD).map .dat ∧ μ = μ', ⟨by rw [List.take_zero, List.append_nil], rfl⟩, ?_, ?_⟩)
        · rintro t d acc _ hd ⟨rfl, rfl⟩
          rw [List.getElem?_map] at hd
          obtain ⟨c, hc, rfl⟩ := Option.map_eq_some_iff.mp hd
          have hgt : (G row)[t]? = some (row ++ [c]) := by rw [hG]; show ((clsL p e.toNat).map _)[t]? = _; rw [List.getElem?_map, hc]; rfl
          refine rgw_name (by decide) rfl (rt_v vt_yes ⟨fun _ => ?_, fun z => by cases z⟩)
          rw [show rowD row = D.tup (row.map prD) from rfl]
          wtm_at "go"
          have hr2 := hrl row (List.mem_of_getElem? hrow)
          have htl := (List.getElem?_eq_some_iff.mp hgt).1
          refine ro_catT (len_ok (by rw [List.length_map]; show _ + 1 ≤ _; omega)) ?_
          refine ⟨len_lt (by rw [List.length_map, List.length_map, List.length_append, List.length_take]; omega), ?_, rfl⟩
          rw [take_snoc hgt, ← List.append_assoc, List.map_append, List.map_append]
          unfold rowD
          simp only [List.map_append, List.map_cons, List.map_nil]
        · rintro acc _ ⟨rfl, rfl⟩
          have ht : (G row).take ((clsL p e.toNat).map prD).length = G row := List.take_of_length_le (by rw [hG]; simp only [List.length_map]; exact Nat.le_refl _)
          rw [take_snoc hrow, List.flatMap_append, List.flatMap_cons, List.flatMap_nil, List.append_nil, ht]
          exact ⟨rfl, rfl⟩
      · rintro acc _ ⟨rfl, rfl⟩
        rw [List.length_map, List.take_length]
        refine dl_o (by rw [List.length_map, List.length_map]; exact len_ok (by omega)) fun l3 => ?_
        refine rg_name rfl ?_
        exact ⟨_, _, _, _, rfl, l3, rfl, rfl⟩
    · rintro o1 o2 o3 o4 _ ⟨l1, rfl, rfl⟩
      rw [List.length_map, List.take_length]
      exact ⟨_, _, _, _, rfl, l1, rfl, rfl⟩
  rintro _ _ _ _ _ ⟨l1, rfl, rfl⟩
  dsimp only [List.set_cons_zero, List.set_cons_succ]
  wtm_at "go"
  exact hR l1

/-! class_above: a class modulo a lesser power -/
def fs_class_above : FS := fun ws μ R _ => ∃ (c0 c1 p : Int) (i : Nat), ws = [.dat (.tup [.int c0, .int c1]), .i p, .i (i : Int)] ∧ OkP p ∧ i ≤ 700 ∧ R (.dat (abvD c0 c1 p i)) μ
theorem fn_class_above (B : Base P w K mg base) : Fn P w K mg base "class_above" 4 ["c", "p", "i"] fs_class_above := by
  have F_raised := fn_raised B
  refine fn_mk (st := s_class_above) (gl_class_above B) (df_class_above B) sc_class_above (fun ws μ R X h => (by first | exact h.1 | (obtain ⟨_, rfl, _⟩ := h; rfl) | (obtain ⟨_, _, rfl, _⟩ := h; rfl) | (obtain ⟨_, _, _, rfl, _⟩ := h; rfl) | (obtain ⟨_, _, _, _, rfl, _⟩ := h; rfl) | (obtain ⟨_, _, _, _, _, rfl, _⟩ := h; rfl) | (obtain ⟨_, _, _, _, _, _, rfl, _⟩ := h; rfl) | (obtain ⟨_, _, _, _, _, _, _, rfl, _⟩ := h; rfl) | (obtain ⟨_, _, _, _, _, _, _, _, rfl, _⟩ := h; rfl))) (fun _ _ _ _ _ _ us hl => match us, hl with | [_, _, _], _ => rfl) fun cdv A outer s H E hr => ⟨_, (pss_cons (ps_if (pt_cmpR op_eq (pv 2) pe_int (nomark _)) (pss_one (ps_ret (pe_glob (v := .ref (He.ga K "ALL_FRACTIONS")) rfl (gl_ALL_FRACTIONS B) rfl))) pss_nil)
  (pss_cons (ps_set (i := 3) sc_class_above.nd rfl (Or.inl rfl) (pe_fn F_raised hr (by decide) rfl (takes_of rfl rfl rfl rfl) (pa_cons (pv 1) (pa_cons (pv 2) pa_nil))))
  (pss_cons (ps_if (pt_cmpR op_eq (pe_ix ix_seq (pv 0) pe_int (fun _ _ => rfl)) pe_int (nomark _)) (pss_one (ps_ret (pe_tup (pa_cons (pe_op op_mod (pe_ix ix_seq (pv 0) pe_int (fun _ _ => rfl)) (pv 3)) (pa_cons pe_int pa_nil))))) pss_nil)
  (pss_one (ps_ret (pe_tup (pa_cons pe_int (pa_cons (pe_op op_mod (pe_ix ix_seq (pv 0) pe_int (fun _ _ => rfl)) (pv 3)) pa_nil)))))))), fun ws μ R X h => ?_⟩
  obtain ⟨c0, c1, p, i, rfl, hp, hi, hR⟩ := h
  change RS _ _ [some _, some _, some _, none] _ _
  (try dsimp only [cxOf])
  have hp2 : 2 ≤ p := hp.2.1
  unfold abvD at hR
  wtm_at "go"
  refine rs_ifv (by wtm_at "vt") ?_ ?_
  · intro z; (try simp only [decide_eq_true_eq, decide_eq_false_iff_not, Bool.not_eq_true', Bool.and_eq_true, Bool.or_eq_true, Bool.not_eq_false', Bool.and_eq_false_imp, Bool.or_eq_false_iff, Bool.not_true, Bool.not_false] at z)
    rw [if_pos (by omega)] at hR
    wtm_at "go"
    exact hR
  intro z; (try simp only [decide_eq_true_eq, decide_eq_false_iff_not, Bool.not_eq_true', Bool.and_eq_true, Bool.or_eq_true, Bool.not_eq_false', Bool.and_eq_false_imp, Bool.or_eq_false_iff, Bool.not_true, Bool.not_false] at z)
  rw [if_neg (by omega)] at hR
  wtm_at "go"
  refine callF1 ⟨p, i, 10, rfl, hp.bd, fun q => by omega, fun _ _ => ⟨by omega, ?_⟩⟩
  rw [Int.toNat_natCast]
  have hP1 := pow_one_le hp2 i
  wtm_at "go"
  refine rs_ifv (by wtm_at "vt") ?_ ?_
  · intro q; (try simp only [decide_eq_true_eq, decide_eq_false_iff_not, Bool.not_eq_true', Bool.and_eq_true, Bool.or_eq_true, Bool.not_eq_false', Bool.and_eq_false_imp, Bool.or_eq_false_iff, Bool.not_true, Bool.not_false] at q)
    rw [if_pos q] at hR
    wtm_at "go"
    exact hR
  · intro q; (try simp only [decide_eq_true_eq, decide_eq_false_iff_not, Bool.not_eq_true', Bool.and_eq_true, Bool.or_eq_true, Bool.not_eq_false', Bool.and_eq_false_imp, Bool.or_eq_false_iff, Bool.not_true, Bool.not_false] at q)
    rw [if_neg q] at hR
    wtm_at "go"
    exact hR

/-! valuation: the exponent of p -/
def fs_valuation (K : PySem.W.Frag) : FS := fun ws μ R X => ∃ n p : Int, ws = [.i n, .i p] ∧ Bd 8900 p ∧ (n = 0 → X (.ref (He.ga K "OutOfRange")) [("name", .str "n")] μ) ∧ (n ≠ 0 → (p < 2 → X (.ref (He.ga K "OutOfRange")) [("name", .str "p")] μ) ∧ (2 ≤ p → R (.i ((splF p n).1 : Nat)) μ))
theorem fn_valuation (B : Base P w K mg base) : Fn P w K mg base "valuation" 3 ["n", "p"] (fs_valuation K) := by
  have F_split_off := fn_split_off B
  refine fn_mk (st := s_valuation) (gl_valuation B) (df_valuation B) sc_valuation (fun ws μ R X h => (by first | exact h.1 | (obtain ⟨_, rfl, _⟩ := h; rfl) | (obtain ⟨_, _, rfl, _⟩ := h; rfl) | (obtain ⟨_, _, _, rfl, _⟩ := h; rfl) | (obtain ⟨_, _, _, _, rfl, _⟩ := h; rfl) | (obtain ⟨_, _, _, _, _, rfl, _⟩ := h; rfl) | (obtain ⟨_, _, _, _, _, _, rfl, _⟩ := h; rfl) | (obtain ⟨_, _, _, _, _, _, _, rfl, _⟩ := h; rfl) | (obtain ⟨_, _, _, _, _, _, _, _, rfl, _⟩ := h; rfl))) (fun _ _ _ _ _ _ us hl => match us, hl with | [_, _], _ => rfl) fun cdv A outer s H E hr => ⟨_, (pss_cons (ps_if (pt_cmpR op_eq (pv 0) pe_int (nomark _)) (pss_one (ps_raise1 (xc_OutOfRange B) rfl (takes_of rfl rfl rfl rfl) hr (by decide) rfl (pa_cons pe_str pa_nil))) pss_nil)
  (pss_cons (ps_if (pt_cmpR op_lt (pv 1) pe_int (nomark _)) (pss_one (ps_raise1 (xc_OutOfRange B) rfl (takes_of rfl rfl rfl rfl) hr (by decide) rfl (pa_cons pe_str pa_nil))) pss_nil)
  (pss_one (ps_ret (pe_ix ix_seq (pe_fn F_split_off hr (by decide) rfl (takes_of rfl rfl rfl rfl) (pa_cons (pv 0) (pa_cons (pv 1) pa_nil))) pe_int (fun _ _ => rfl)))))), fun ws μ R X h => ?_⟩
  obtain ⟨n, p, rfl, hpb, hX, hR⟩ := h
  change RS _ _ [some _, some _] _ _
  (try dsimp only [cxOf])
  wtm_at "go"
  refine rs_ifv (by wtm_at "vt") ?_ ?_
  · intro z; (try simp only [decide_eq_true_eq, decide_eq_false_iff_not, Bool.not_eq_true', Bool.and_eq_true, Bool.or_eq_true, Bool.not_eq_false', Bool.and_eq_false_imp, Bool.or_eq_false_iff, Bool.not_true, Bool.not_false] at z)
    refine rs_raise1 (xc_OutOfRange B).ox (xc_OutOfRange B).no ?_
    wtm_at "go"
    exact ⟨_, rfl, hX z⟩
  intro z; (try simp only [decide_eq_true_eq, decide_eq_false_iff_not, Bool.not_eq_true', Bool.and_eq_true, Bool.or_eq_true, Bool.not_eq_false', Bool.and_eq_false_imp, Bool.or_eq_false_iff, Bool.not_true, Bool.not_false] at z)
  obtain ⟨hX2, hR⟩ := hR z
  wtm_at "go"
  refine rs_ifv (by wtm_at "vt") ?_ ?_
  · intro y; (try simp only [decide_eq_true_eq, decide_eq_false_iff_not, Bool.not_eq_true', Bool.and_eq_true, Bool.or_eq_true, Bool.not_eq_false', Bool.and_eq_false_imp, Bool.or_eq_false_iff, Bool.not_true, Bool.not_false] at y)
    refine rs_raise1 (xc_OutOfRange B).ox (xc_OutOfRange B).no ?_
    wtm_at "go"
    exact ⟨_, rfl, hX2 y⟩
  intro y; (try simp only [decide_eq_true_eq, decide_eq_false_iff_not, Bool.not_eq_true', Bool.and_eq_true, Bool.or_eq_true, Bool.not_eq_false', Bool.and_eq_false_imp, Bool.or_eq_false_iff, Bool.not_true, Bool.not_false] at y)
  wtm_at "go"
  refine callF1 ⟨n, p, rfl, z, by omega, hpb, ?_⟩
  wtm_at "go"
  exact hR (by omega)

/-! coarsened: the class modulo a divisor -/
def coL (n d : Int) (cs : List (Int × Int)) : List D := (((pf n).zip cs).filter fun q => decide (d % q.1.1 = 0)).map fun q => abvD q.2.1 q.2.2 q.1.1 (splF q.1.1 d).1
def fs_coarsened (K : PySem.W.Frag) : FS := fun ws μ R X => ∃ (cs : List (Int × Int)) (n d : Int), ws = [.dat (.tup (cs.map prD)), .i n, .i d] ∧ (n < 1 ∨ n > 900 → X (.ref (He.ga K "OutOfRange")) [("name", .str "n")] μ) ∧ (1 ≤ n → n ≤ 900 → (d < 1 ∨ d > 900 ∨ ¬ d ∣ n → X (.ref (He.ga K "OutOfRange")) [("name", .str "d")] μ) ∧ (1 ≤ d → d ∣ n → cs.length ≤ 1000 ∧ R (.dat (.tup (coL n d cs))) μ))
theorem fn_coarsened (B : Base P w K mg base) : Fn P w K mg base "coarsened" 6 ["c", "n", "d"] (fs_coarsened K) := by
  have F_check_modulus := fn_check_modulus B
  have F_class_above := fn_class_above B
  have F_prime_parts := fn_prime_parts B
  have F_valuation := fn_valuation B
  refine fn_mk (st := s_coarsened) (gl_coarsened B) (df_coarsened B) sc_coarsened (fun ws μ R X h => (by first | exact h.1 | (obtain ⟨_, rfl, _⟩ := h; rfl) | (obtain ⟨_, _, rfl, _⟩ := h; rfl) | (obtain ⟨_, _, _, rfl, _⟩ := h; rfl) | (obtain ⟨_, _, _, _, rfl, _⟩ := h; rfl) | (obtain ⟨_, _, _, _, _, rfl, _⟩ := h; rfl) | (obtain ⟨_, _, _, _, _, _, rfl, _⟩ := h; rfl) | (obtain ⟨_, _, _, _, _, _, _, rfl, _⟩ := h; rfl) | (obtain ⟨_, _, _, _, _, _, _, _, rfl, _⟩ := h; rfl))) (fun _ _ _ _ _ _ us hl => match us, hl with | [_, _, _], _ => rfl) fun cdv A outer s H E hr => ⟨_, (pss_cons (ps_expr (pe_fn F_check_modulus hr (by decide) rfl (takes_of rfl rfl rfl rfl) (pa_cons pe_str (pa_cons (pv 1) (pa_cons (pe_gi (ct_GREATEST_MODULUS B)) pa_nil)))))
  (pss_cons (ps_expr (pe_fn F_check_modulus hr (by decide) rfl (takes_of rfl rfl rfl rfl) (pa_cons pe_str (pa_cons (pv 2) (pa_cons (pe_gi (ct_GREATEST_MODULUS B)) pa_nil)))))
  (pss_cons (ps_if (pt_cmpR op_ne (pe_op op_mod (pv 1) (pv 2)) pe_int (nomark _)) (pss_one (ps_raise1 (xc_OutOfRange B) rfl (takes_of rfl rfl rfl rfl) hr (by decide) rfl (pa_cons pe_str pa_nil))) pss_nil)
  (pss_cons (ps_setLcD (i := 3) (own := [("p", 4), ("spare", 5)]) rfl sc_coarsened.nd rfl rfl (sw_true rfl rfl rfl (by decide +kernel)) (pi_list (pe_ix ix_seq (pe_fn F_prime_parts hr (by decide) rfl (takes_of rfl rfl rfl rfl) (pa_cons (pv 1) pa_nil)) pe_int (fun _ _ => rfl))) (blkOk_by (own := [("p", 4), ("spare", 5)]) (N := ["c", "n", "d", "primes", "p", "spare", "item"]) (sc := defScope s_coarsened) (by decide +kernel)) (fun _ _ _ _ _ => (pg_tup (n := 2) (by rfl) (pgs_cons (pg_name (i := 4) sc_coarsened.nd rfl (Or.inl rfl)) (pgs_cons (pg_name (i := 5) sc_coarsened.nd rfl (Or.inl rfl)) pgs_nil)))) (fun _ _ _ _ _ => pts_nil) (fun _ _ _ _ _ => (pv 4)) (by intro _; rfl) (by intro _ _ _ _ _; (try dsimp only [Cx.blk, cxOf]) <;> exact rfl) (by intro _ _ _ _ _; (try dsimp only [Cx.blk, cxOf]) <;> exact rfl) (by intro _ _ _ _ _; (try dsimp only [Cx.blk, cxOf]) <;> exact rfl))
  (pss_one (ps_ret (pe_callTy cr_tupleOf (by rfl) (fr_tuple B) (by decide +kernel) (pa_cons (pe_lcD (own := [("p", 4), ("item", 6)]) rfl sc_coarsened.nd (pi_zipK rfl (fr_zip B) (pa_cons (pv 3) (pa_cons (pv 0) pa_nil))) (blkOk_by (own := [("p", 4), ("item", 6)]) (N := ["c", "n", "d", "primes", "p", "spare", "item"]) (sc := defScope s_coarsened) (by decide +kernel)) (fun _ _ _ _ _ => (pg_tup (n := 2) (by rfl) (pgs_cons (pg_name (i := 4) sc_coarsened.nd rfl (Or.inl rfl)) (pgs_cons (pg_name (i := 6) sc_coarsened.nd rfl (Or.inl rfl)) pgs_nil)))) (fun _ _ _ _ _ => (pts_one (pt_cmpR op_eq (pe_op op_mod (pv 2) (pv 4)) pe_int (nomark _)))) (fun _ _ _ _ _ => (pe_fn F_class_above hr (by decide) rfl takes_no (pa_cons (pv 6) (pa_cons (pv 4) (pa_cons (pe_fn F_valuation hr (by decide) rfl takes_no (pa_cons (pv 2) (pa_cons (pv 4) pa_nil))) pa_nil))))) (by intro _; rfl) (by intro _ _ _ _ _; (try dsimp only [Cx.blk, cxOf]) <;> exact rfl) (by intro _ _ _ _ _; (try dsimp only [Cx.blk, cxOf]) <;> exact rfl) (by intro _ _ _ _ _; (try dsimp only [Cx.blk, cxOf]) <;> exact rfl)) pa_nil)))))))), fun ws μ R X h => ?_⟩
  obtain ⟨cs, n, d, rfl, hX, hR⟩ := h
  change RS _ _ [some _, some _, some _, none, none, none, none] _ _
  (try dsimp only [cxOf])
  wtm_at "go"
  refine rs_drop ?_
  wtm_at "go"
  refine callF1 ⟨"n", n, 900, rfl, hX, fun n1 n2 => ?_⟩
  obtain ⟨hX2, hR⟩ := hR n1 n2
  wtm_at "go"
  refine rs_drop ?_
  wtm_at "go"
  refine callF1 ⟨"d", d, 900, rfl, fun z => hX2 (by omega), fun d1 d2 => ?_⟩
  have ok := pf_ok n1 n2
  have hln := ok.l
  wtm_at "nx"
  refine rs_ifv (by wtm_at "vt") ?_ ?_
  · intro hb; (try simp only [decide_eq_true_eq, decide_eq_false_iff_not, Bool.not_eq_true', Bool.and_eq_true, Bool.or_eq_true, Bool.not_eq_false', Bool.and_eq_false_imp, Bool.or_eq_false_iff, Bool.not_true, Bool.not_false] at hb)
    refine rs_raise1 (xc_OutOfRange B).ox (xc_OutOfRange B).no ?_
    wtm_at "go"
    exact ⟨_, rfl, hX2 (.inr (.inr fun y => hb (Int.emod_eq_zero_of_dvd y)))⟩
  intro hb; (try simp only [decide_eq_true_eq, decide_eq_false_iff_not, Bool.not_eq_true', Bool.and_eq_true, Bool.or_eq_true, Bool.not_eq_false', Bool.and_eq_false_imp, Bool.or_eq_false_iff, Bool.not_true, Bool.not_false] at hb)
  obtain ⟨hl, hR⟩ := hR d1 (Int.dvd_of_emod_eq_zero hb)
  wtm_at "nx"
  refine rs_asg (re_lcB (pf n) prD (fun q => .int q.1) (ri_list (re_frz ?_)))
  wtm_at "go"
  refine callF1 ⟨n, rfl, fun z => by omega, fun _ l => ?_⟩
  wtm_at "go"
  refine ⟨0, l, (pf n).map prD, rfl, rfl, _, rfl, rfl, by omega, ?_, dl_f (undat_map _) (len_ok (by rw [List.length_map]; omega)) (rg_name rfl ?_)⟩
  · rintro ⟨p, e⟩ hq
    refine rgw_tup rfl (rgws_cons (rgw_name (by decide) rfl (rgws_cons (rgw_name (by decide) rfl (rgws_nil ⟨rfl, ?_⟩)))))
    wtm_at "go"
    exact ⟨rfl, rfl⟩
  dsimp only [List.set_cons_zero, List.set_cons_succ, List.eraseIdx]
  wtm_at "go"
  refine re_lcA ((pf n).zip cs) (fun q => .tup [.int q.1.1, prD q.2]) (fun q => abvD q.2.1 q.2.2 q.1.1 (splF q.1.1 d).1) (fun q => decide (d % q.1.1 = 0)) (ri_zipK (ra_v (by wtm_at "va") ⟨_, _, _, _, rfl, rfl, rfl, zpd_map _ _ _ _, ?_, ?_, ?_⟩))
  · rw [List.length_zip]; omega
  · rintro ⟨⟨p, e⟩, ⟨a, b⟩⟩ hq
    obtain ⟨hp, he1, he2, _⟩ := ok.m _ (List.of_mem_zip hq).1
    dsimp only at hp he1 he2
    have hp0 : 0 < p := by have := hp.2.1; omega
    dsimp only [prD]
    refine rgw_tup rfl (rgws_cons (rgw_name (by decide) rfl (rgws_cons (rgw_name (by decide) rfl (rgws_nil ⟨rfl, ?_⟩)))))
    wtm_at "go"
    refine ⟨rfl, rfl, fun z => ?_⟩
    wtm_at "go"
    refine callF1 ⟨d, p, rfl, hp.bd.up (by decide), fun z => by omega, fun _ => ⟨fun z => by have := hp.2.1; omega, fun _ => ?_⟩⟩
    wtm_at "go"
    have hv : (splF p d).1 ≤ 700 := by
      have h1 := (splF_ok hp.2.1 (show d ≠ 0 by omega)).1
      have h2 := pow_bits (e := (splF p d).1) d1 hp.2.1 ⟨_, h1⟩
      have h3 := bits_le (show Bd 10 d from ⟨by omega⟩)
      omega
    exact callF1 ⟨a, b, p, (splF p d).1, rfl, hp, hv, rfl, rfl⟩
  · refine dl_f (undat_map _) (len_ok (by rw [List.length_map]; have := List.length_filter_le (fun q : (Int × Int) × (Int × Int) => decide (d % q.1.1 = 0)) ((pf n).zip cs); rw [List.length_zip] at this; omega)) ?_
    wtm_at "go"
    exact rc_tupF hR

/-! is_item: whether a pair is a class at a power of a prime -/
def fs_is_item (K : PySem.W.Frag) : FS := fun ws μ R _ => ∃ (a b p : Int) (j : Nat), ws = [.dat (.tup [.int a, .int b]), .i p, .i (j : Int)] ∧ OkP p ∧ j ≤ 12 ∧ R (.b (itemB a b p (p ^ j))) μ
theorem fn_is_item (B : Base P w K mg base) : Fn P w K mg base "is_item" 5 ["item", "p", "j"] (fs_is_item K) := by
  have F_raised := fn_raised B
  refine fn_mk (st := s_is_item) (gl_is_item B) (df_is_item B) sc_is_item (fun ws μ R X h => (by first | exact h.1 | (obtain ⟨_, rfl, _⟩ := h; rfl) | (obtain ⟨_, _, rfl, _⟩ := h; rfl) | (obtain ⟨_, _, _, rfl, _⟩ := h; rfl) | (obtain ⟨_, _, _, _, rfl, _⟩ := h; rfl) | (obtain ⟨_, _, _, _, _, rfl, _⟩ := h; rfl) | (obtain ⟨_, _, _, _, _, _, rfl, _⟩ := h; rfl) | (obtain ⟨_, _, _, _, _, _, _, rfl, _⟩ := h; rfl) | (obtain ⟨_, _, _, _, _, _, _, _, rfl, _⟩ := h; rfl))) (fun _ _ _ _ _ _ us hl => match us, hl with | [_, _, _], _ => rfl) fun cdv A outer s H E hr => ⟨_, (pss_cons (ps_asg (pv 0) (pg_tup (n := 2) (by rfl) (pgs_cons (pg_name (i := 3) sc_is_item.nd rfl (Or.inl rfl)) (pgs_cons (pg_name (i := 4) sc_is_item.nd rfl (Or.inl rfl)) pgs_nil))))
  (pss_cons (ps_set (i := 5) sc_is_item.nd rfl (Or.inl rfl) (pe_fn F_raised hr (by decide) rfl (takes_of rfl rfl rfl rfl) (pa_cons (pv 1) (pa_cons (pv 2) pa_nil))))
  (pss_cons (ps_if (pt_cmpR op_eq (pv 4) pe_int (nomark _)) (pss_one (ps_ret (pe_chain op_le op_lt pe_int (pv 3) (pv 5)))) pss_nil)
  (pss_one (ps_ret (pe_and (pe_cmpR op_eq (pv 3) pe_int (nomark _)) (pe_and (pe_chain op_le op_lt pe_int (pv 4) (pv 5)) (pe_one (pe_cmpR op_eq (pe_op op_mod (pv 4) (pv 1)) pe_int (nomark _)))))))))), fun ws μ R X h => ?_⟩
  obtain ⟨a, b, p, j, rfl, hp, hj, hR⟩ := h
  change RS _ _ [some _, some _, some _, none, none, none] _ _
  (try dsimp only [cxOf])
  have pb : Bd 10 p := ⟨by have := hp.1; have := hp.2.1; omega⟩
  have p0 : 0 < p := by have := hp.2.1; omega
  unfold itemB at hR
  wtm_at "rs"
  refine rs_asg (re_v (by wtm_at "ve") (rg_tup rfl (rgs_cons (rg_name rfl (rgs_cons (rg_name rfl (rgs_nil ?_)))))))
  dsimp only [List.set_cons_zero, List.set_cons_succ]
  wtm_at "go"
  refine callF1 ⟨p, j, 10, rfl, pb, fun z => by omega, fun _ _ => ⟨by omega, ?_⟩⟩
  rw [Int.toNat_natCast]
  wtm_at "nx"
  refine rs_ifv (by wtm_at "vt") (fun z => ?_) (fun z => ?_)
  · have z := of_decide_eq_true z
    rw [if_pos z] at hR
    wtm_at "go"
    exact hR
  · have z := of_decide_eq_false z
    rw [if_neg z] at hR
    wtm_at "go"
    exact hR

/-! is_class: whether a row is a class modulo a number -/
def fs_is_class (K : PySem.W.Frag) : FS := fun ws μ R X => ∃ (cs : List (Int × Int)) (n : Int), ws = [.dat (.tup (cs.map prD)), .i n] ∧ (n < 1 ∨ n > 900 → X (.ref (He.ga K "OutOfRange")) [("name", .str "n")] μ) ∧ (1 ≤ n → n ≤ 900 → cs.length ≤ 1000 ∧ R (.b (clsB n cs)) μ)
theorem fn_is_class (B : Base P w K mg base) : Fn P w K mg base "is_class" 6 ["c", "n"] (fs_is_class K) := by
  have F_check_modulus := fn_check_modulus B
  have F_prime_parts := fn_prime_parts B
  have F_is_item := fn_is_item B
  refine fn_mk (st := s_is_class) (gl_is_class B) (df_is_class B) sc_is_class (fun ws μ R X h => (by first | exact h.1 | (obtain ⟨_, rfl, _⟩ := h; rfl) | (obtain ⟨_, _, rfl, _⟩ := h; rfl) | (obtain ⟨_, _, _, rfl, _⟩ := h; rfl) | (obtain ⟨_, _, _, _, rfl, _⟩ := h; rfl) | (obtain ⟨_, _, _, _, _, rfl, _⟩ := h; rfl) | (obtain ⟨_, _, _, _, _, _, rfl, _⟩ := h; rfl) | (obtain ⟨_, _, _, _, _, _, _, rfl, _⟩ := h; rfl) | (obtain ⟨_, _, _, _, _, _, _, _, rfl, _⟩ := h; rfl))) (fun _ _ _ _ _ _ us hl => match us, hl with | [_, _], _ => rfl) fun cdv A outer s H E hr => ⟨_, (pss_cons (ps_expr (pe_fn F_check_modulus hr (by decide) rfl (takes_of rfl rfl rfl rfl) (pa_cons pe_str (pa_cons (pv 1) (pa_cons (pe_gi (ct_GREATEST_MODULUS B)) pa_nil)))))
  (pss_cons (ps_set (i := 2) sc_is_class.nd rfl (Or.inl rfl) (pe_ix ix_seq (pe_fn F_prime_parts hr (by decide) rfl (takes_of rfl rfl rfl rfl) (pa_cons (pv 1) pa_nil)) pe_int (fun _ _ => rfl)))
  (pss_cons (ps_if (pt_cmpR op_ne (pe_callB cr_len (by rfl) (fr_len B) (by decide +kernel) (pa_cons (pv 0) pa_nil)) (pe_callB cr_len (by rfl) (fr_len B) (by decide +kernel) (pa_cons (pv 2) pa_nil)) (nomark _)) (pss_one (ps_ret pe_bl)) pss_nil)
  (pss_one (ps_ret (pe_callB (cr_all rfl) (by rfl) (fr_all B) (by decide +kernel) (pa_cons (pe_lcD (own := [("item", 5), ("p", 3), ("j", 4)]) rfl sc_is_class.nd (pi_zipK rfl (fr_zip B) (pa_cons (pv 2) (pa_cons (pv 0) pa_nil))) (blkOk_by (own := [("item", 5), ("p", 3), ("j", 4)]) (N := ["c", "n", "parts", "p", "j", "item"]) (sc := defScope s_is_class) (by decide +kernel)) (fun _ _ _ _ _ => (pg_tup (n := 2) (by rfl) (pgs_cons (pg_tup (n := 2) (by rfl) (pgs_cons (pg_name (i := 3) sc_is_class.nd rfl (Or.inl rfl)) (pgs_cons (pg_name (i := 4) sc_is_class.nd rfl (Or.inl rfl)) pgs_nil))) (pgs_cons (pg_name (i := 5) sc_is_class.nd rfl (Or.inl rfl)) pgs_nil)))) (fun _ _ _ _ _ => pts_nil) (fun _ _ _ _ _ => (pe_fn F_is_item hr (by decide) rfl takes_no (pa_cons (pv 5) (pa_cons (pv 3) (pa_cons (pv 4) pa_nil))))) (by intro _; rfl) (by intro _ _ _ _ _; (try dsimp only [Cx.blk, cxOf]) <;> exact rfl) (by intro _ _ _ _ _; (try dsimp only [Cx.blk, cxOf]) <;> exact rfl) (by intro _ _ _ _ _; (try dsimp only [Cx.blk, cxOf]) <;> exact rfl)) pa_nil))))))), fun ws μ R X h => ?_⟩
  obtain ⟨cs, n, rfl, hX, hR⟩ := h
  change RS _ _ [some _, some _, none, none, none, none] _ _
  (try dsimp only [cxOf])
  wtm_at "go"
  refine rs_drop ?_
  wtm_at "go"
  refine callF1 ⟨"n", n, 900, rfl, hX, fun n1 n2 => ?_⟩
  obtain ⟨hl, hR⟩ := hR n1 n2
  have ok := pf_ok n1 n2
  have hln := ok.l
  wtm_at "nx"
  refine rs_asg (re_frz ?_)
  wtm_at "go"
  refine callF1 ⟨n, rfl, fun z => by omega, fun _ l => ?_⟩
  wtm_at "go"
  refine ⟨0, l, (pf n).map prD, rfl, rfl, rg_name rfl ?_⟩
  dsimp only [List.set_cons_zero, List.set_cons_succ, List.eraseIdx]
  unfold clsB at hR
  wtm_at "nx"
  refine rs_ifv (by wtm_at "vt") ?_ ?_
  · intro hb; (try simp only [decide_eq_true_eq, decide_eq_false_iff_not, Bool.not_eq_true', Bool.and_eq_true, Bool.or_eq_true, Bool.not_eq_false', Bool.and_eq_false_imp, Bool.or_eq_false_iff, Bool.not_true, Bool.not_false] at hb)
    rw [List.length_map, List.length_map] at hb
    rw [decide_eq_false (by omega), Bool.false_and] at hR
    wtm_at "go"
    exact hR
  · intro hb; (try simp only [decide_eq_true_eq, decide_eq_false_iff_not, Bool.not_eq_true', Bool.and_eq_true, Bool.or_eq_true, Bool.not_eq_false', Bool.and_eq_false_imp, Bool.or_eq_false_iff, Bool.not_true, Bool.not_false] at hb)
    rw [List.length_map, List.length_map] at hb
    rw [decide_eq_true (by omega), Bool.true_and] at hR
    wtm_at "go"
    refine re_lcB ((pf n).zip cs) (fun q => .tup [prD q.1, prD q.2]) (fun q => .bl (itemB q.2.1 q.2.2 q.1.1 (q.1.1 ^ q.1.2.toNat))) (ri_zipK (ra_v (by wtm_at "va") ⟨_, _, _, _, rfl, rfl, rfl, zpd_map _ _ _ _, ?_, ?_, ?_⟩))
    · rw [List.length_zip]; omega
    · rintro ⟨⟨p, e⟩, ⟨a, b⟩⟩ hq
      obtain ⟨hp, he1, he2, _⟩ := ok.m _ (List.of_mem_zip hq).1
      dsimp only at hp he1 he2
      refine rgw_tup rfl (rgws_cons (rgw_tup rfl (rgws_cons (rgw_name (by decide) rfl (rgws_cons (rgw_name (by decide) rfl (rgws_nil (rgws_cons (rgw_name (by decide) rfl (rgws_nil ⟨rfl, ?_⟩))))))))))
      wtm_at "go"
      refine callF1 ⟨a, b, p, e.toNat, by rw [Int.toNat_of_nonneg (by omega)]; rfl, hp, by omega, ?_⟩
      exact ⟨rfl, rfl⟩
    · refine dl_f (undat_map _) (len_ok (by rw [List.length_map, List.length_zip]; omega)) ?_
      wtm_at "go"
      rw [show ((pf n).zip cs).map (fun q => D.bl (itemB q.2.1 q.2.2 q.1.1 (q.1.1 ^ q.1.2.toNat))) = (((pf n).zip cs).map fun q => itemB q.2.1 q.2.2 q.1.1 (q.1.1 ^ q.1.2.toNat)).map .bl by rw [List.map_map]; rfl]
      refine rc_v vc_all ?_
      exact hR

/-! _law_call: what is told, a refusal as data -/
def fs__law_call : FS := fun ws μ R _ => ∃ (word : Str) (th : List D), ws = [.s word, .dat (.lst th)] ∧
  ((∃ x y n : Int, word = "class" ∧ th = [.tup [.int x, .int y], .int n] ∧ (n < 1 ∨ n > 900 → R (.dat (refD "n")) μ) ∧ (1 ≤ n → n ≤ 900 → Int.gcd x y = 1 ∧ Bd 8000 x ∧ Bd 8000 y ∧ ∀ cs, ClsM x y n cs → R (.dat (.tup [.str "told", .tup (cs.map prD)])) μ)) ∨
  (∃ n : Int, word = "total" ∧ th = [.int n] ∧ (n < 1 ∨ n > 900 → R (.dat (refD "n")) μ) ∧ (1 ≤ n → n ≤ 900 → R (.dat (.tup [.str "told", .int (totP (pf n))])) μ)) ∨
  (∃ n : Int, word = "list" ∧ th = [.int n] ∧ (n < 1 ∨ n > 60 → R (.dat (refD "n")) μ) ∧ (1 ≤ n → n ≤ 60 → ∀ l, R (.dat (.tup [.str "told", .own l])) ((l, HC.lst (((clM (pf n)).map rowD).map .dat)) :: μ))) ∨
  (∃ (cs : List (Int × Int)) (n d : Int), word = "coarsened" ∧ th = [.tup (cs.map prD), .int n, .int d] ∧ (n < 1 ∨ n > 900 → R (.dat (refD "n")) μ) ∧ (1 ≤ n → n ≤ 900 → (d < 1 ∨ d > 900 ∨ ¬ d ∣ n → R (.dat (refD "d")) μ) ∧ (1 ≤ d → d ∣ n → cs.length ≤ 1000 ∧ R (.dat (.tup [.str "told", .tup (coL n d cs)])) μ))) ∨
  (∃ (cs : List (Int × Int)) (n : Int), word = "is" ∧ th = [.tup (cs.map prD), .int n] ∧ (n < 1 ∨ n > 900 → R (.dat (refD "n")) μ) ∧ (1 ≤ n → n ≤ 900 → cs.length ≤ 1000 ∧ R (.dat (.tup [.str "told", .bl (clsB n cs)])) μ)) ∨
  (∃ (cs : List (Int × Int)) (n : Int), word = "fraction" ∧ th = [.tup (cs.map prD), .int n] ∧ (n < 1 ∨ n > 900 → R (.dat (refD "n")) μ) ∧ (1 ≤ n → n ≤ 900 → ItR (pf n) cs ∧ ∀ d, FrI n cs d → R (.dat (.tup [.str "told", d])) μ)))
theorem fn__law_call (B : Base P w K mg base) : Fn P w K mg base "_law_call" 7 ["word", "things"] fs__law_call := by
  have F_fraction_in := fn_fraction_in B
  have F_class_modulo := fn_class_modulo B
  have F_class_total := fn_class_total B
  have F_classes_modulo := fn_classes_modulo B
  have F_coarsened := fn_coarsened B
  have F_is_class := fn_is_class B
  refine fn_mk (st := s__law_call) (gl__law_call B) (df__law_call B) sc__law_call (fun ws μ R X h => (by first | exact h.1 | (obtain ⟨_, rfl, _⟩ := h; rfl) | (obtain ⟨_, _, rfl, _⟩ := h; rfl) | (obtain ⟨_, _, _, rfl, _⟩ := h; rfl) | (obtain ⟨_, _, _, _, rfl, _⟩ := h; rfl) | (obtain ⟨_, _, _, _, _, rfl, _⟩ := h; rfl) | (obtain ⟨_, _, _, _, _, _, rfl, _⟩ := h; rfl) | (obtain ⟨_, _, _, _, _, _, _, rfl, _⟩ := h; rfl) | (obtain ⟨_, _, _, _, _, _, _, _, rfl, _⟩ := h; rfl))) (fun _ _ _ _ _ _ us hl => match us, hl with | [_, _], _ => rfl) fun cdv A outer s H E hr => ⟨_, (pss_one (ps_tryD rfl rfl sc__law_call.nd (takes_of rfl rfl rfl rfl) (fun W pn xe tk pp => (pss_cons (ps_if (pt_cmpR op_eq (pv 0) pe_str (nomark _)) (pss_one (ps_ret (pe_tup (pa_cons pe_str (pa_cons (pe_fn F_class_modulo hr (by decide) rfl tk (pa_cons (pe_ix ix_seq (pv 1) pe_int (fun _ _ => rfl)) (pa_cons (pe_ix ix_seq (pv 1) pe_int (fun _ _ => rfl)) pa_nil))) pa_nil))))) pss_nil)
  (pss_cons (ps_if (pt_cmpR op_eq (pv 0) pe_str (nomark _)) (pss_one (ps_ret (pe_tup (pa_cons pe_str (pa_cons (pe_fn F_class_total hr (by decide) rfl tk (pa_cons (pe_ix ix_seq (pv 1) pe_int (fun _ _ => rfl)) pa_nil)) pa_nil))))) pss_nil)
  (pss_cons (ps_if (pt_cmpR op_eq (pv 0) pe_str (nomark _)) (pss_one (ps_ret (pe_tup (pa_cons pe_str (pa_cons (pe_fn F_classes_modulo hr (by decide) rfl tk (pa_cons (pe_ix ix_seq (pv 1) pe_int (fun _ _ => rfl)) pa_nil)) pa_nil))))) pss_nil)
  (pss_cons (ps_if (pt_cmpR op_eq (pv 0) pe_str (nomark _)) (pss_one (ps_ret (pe_tup (pa_cons pe_str (pa_cons (pe_fn F_coarsened hr (by decide) rfl tk (pa_cons (pe_ix ix_seq (pv 1) pe_int (fun _ _ => rfl)) (pa_cons (pe_ix ix_seq (pv 1) pe_int (fun _ _ => rfl)) (pa_cons (pe_ix ix_seq (pv 1) pe_int (fun _ _ => rfl)) pa_nil)))) pa_nil))))) pss_nil)
  (pss_cons (ps_if (pt_cmpR op_eq (pv 0) pe_str (nomark _)) (pss_one (ps_ret (pe_tup (pa_cons pe_str (pa_cons (pe_fn F_is_class hr (by decide) rfl tk (pa_cons (pe_ix ix_seq (pv 1) pe_int (fun _ _ => rfl)) (pa_cons (pe_ix ix_seq (pv 1) pe_int (fun _ _ => rfl)) pa_nil))) pa_nil))))) pss_nil)
  (pss_one (ps_ret (pe_tup (pa_cons pe_str (pa_cons (pe_fn F_fraction_in hr (by decide) rfl tk (pa_cons (pe_ix ix_seq (pv 1) pe_int (fun _ _ => rfl)) (pa_cons (pe_ix ix_seq (pv 1) pe_int (fun _ _ => rfl)) pa_nil))) pa_nil))))))))))) (cl_named (i := 2) ⟨rfl, by decide, Or.inl (gl_OutOfRange B)⟩ rfl rfl (fun a oe cls d pn hz hf => (pss_cons (ps_set (i := 3) sc__law_call.nd rfl (Or.inl rfl) (pe_lst (pa_cons (pe_callB (call_isX hz hf) (by rfl) (fr_isinstance B) (by decide +kernel) (pa_cons (pv 2) (pa_cons (pe_glob (v := .ref (He.ga K "TooFine")) rfl (gl_TooFine B) rfl) pa_nil))) (pa_cons (pe_callB (call_isX hz hf) (by rfl) (fr_isinstance B) (by decide +kernel) (pa_cons (pv 2) (pa_cons (pe_glob (v := .ref (He.ga K "BadForm")) rfl (gl_BadForm B) rfl) pa_nil))) pa_nil))))
  (pss_one (ps_ret (pe_tup (pa_cons pe_str (pa_cons (pe_fx hz hf (pv 2)) (pa_cons (pe_callB (call_isX hz hf) (by rfl) (fr_isinstance B) (by decide +kernel) (pa_cons (pv 2) (pa_cons (pe_glob (v := .ref (He.ga K "TooGreatError")) rfl (gl_TooGreatError B) rfl) pa_nil))) (pa_cons (pe_callB (call_isX hz hf) (by rfl) (fr_isinstance B) (by decide +kernel) (pa_cons (pv 2) (pa_cons (pe_bltn (v := .ty "ValueError") rfl (fr_ValueError B) (by decide +kernel) rfl) pa_nil))) (pa_cons (pe_cmpR op_in_seq pe_bl (pv 3) (by rfl)) pa_nil)))))))))) (cl_plain ⟨rfl, by decide, Or.inl (gl_TooGreatError B)⟩ (fun a oe cls d pn hz hf => (pss_one (ps_ret (pe_tup (pa_cons pe_str pa_nil))))) .nil (by intro _ _ _ _ _; (try dsimp only [Cx.suite, Cx.tr, cxOf]) <;> exact rfl)) (by intro _ _ _ _ _; (try dsimp only [Cx.suite, Cx.tr, cxOf]) <;> exact rfl)) (by intro _ _ _; (try dsimp only [Cx.suite, Cx.tr, cxOf]) <;> exact rfl))), fun ws μ R X h => ?_⟩
  obtain ⟨word, th, rfl, hc⟩ := h
  change RS _ _ [some _, some _, none, none] _ _
  (try dsimp only [cxOf])
  refine rs_tryD (fun ε' cls fs μ' => ε' = [some (.s word), some (.dat (.lst th)), none, none] ∧ cls = .ref (He.ga K "OutOfRange") ∧ μ' = μ ∧ ∃ nm, fs = [(("name" : Str), D.str nm)] ∧ R (.dat (refD nm)) μ) (fun W' => ?_) ?_
  · rcases hc with ⟨x, y, n, rfl, rfl, h1, h2⟩ | ⟨n, rfl, rfl, h1, h2⟩ | ⟨n, rfl, rfl, h1, h2⟩ | ⟨cs, n, d, rfl, rfl, h1, h2⟩ | ⟨cs, n, rfl, rfl, h1, h2⟩ | ⟨cs, n, rfl, rfl, h1, h2⟩
    · wtm_at "go"
      wtm_at "disp"
      refine callF1 ⟨x, y, n, rfl, fun z => ⟨rfl, rfl, rfl, _, rfl, h1 z⟩, fun n1 n2 => ?_⟩
      obtain ⟨a, b, c, h3⟩ := h2 n1 n2
      refine ⟨a, b, c, fun cs hcs => ?_⟩
      wtm_at "go"
      exact h3 cs hcs
    · wtm_at "go"
      wtm_at "disp"
      refine callF1 ⟨n, rfl, fun z => ⟨rfl, rfl, rfl, _, rfl, h1 z⟩, fun n1 n2 => ?_⟩
      wtm_at "go"
      exact h2 n1 n2
    · wtm_at "go"
      wtm_at "disp"
      refine callF1 ⟨n, rfl, fun z => ⟨rfl, rfl, rfl, _, rfl, h1 z⟩, fun n1 n2 l => ?_⟩
      wtm_at "go"
      exact h2 n1 n2 l
    · wtm_at "go"
      wtm_at "disp"
      refine callF1 ⟨cs, n, d, rfl, fun z => ⟨rfl, rfl, rfl, _, rfl, h1 z⟩, fun n1 n2 => ⟨fun z => ⟨rfl, rfl, rfl, _, rfl, (h2 n1 n2).1 z⟩, fun d1 d2 => ⟨((h2 n1 n2).2 d1 d2).1, ?_⟩⟩⟩
      wtm_at "go"
      exact ((h2 n1 n2).2 d1 d2).2
    · wtm_at "go"
      wtm_at "disp"
      refine callF1 ⟨cs, n, rfl, fun z => ⟨rfl, rfl, rfl, _, rfl, h1 z⟩, fun n1 n2 => ⟨(h2 n1 n2).1, ?_⟩⟩
      wtm_at "go"
      exact (h2 n1 n2).2
    · wtm_at "go"
      wtm_at "disp"
      refine callF1 ⟨cs, n, rfl, fun z => ⟨rfl, rfl, rfl, _, rfl, h1 z⟩, fun n1 n2 => ⟨(h2 n1 n2).1, fun d hd => ?_⟩⟩
      wtm_at "go"
      exact (h2 n1 n2).2 d hd
  · rintro ε' cls fs μ' ⟨rfl, rfl, rfl, nm, rfl, hR⟩
    refine ⟨true, xm_OutOfRange_OutOfRange B, fun _ a d => ?_, fun z => by cases z⟩
    change RS _ _ [_, _, some _, _] _ _
    wtm_at "go"
    refine re_lst (ra_v (va_cons (ve_cb (by wtm_at "va") (vc_isX (xk_OutOfRange B) (xi_OutOfRange_TooFine B))) (va_cons (ve_cb (by wtm_at "va") (vc_isX (xk_OutOfRange B) (xi_OutOfRange_BadForm B))) va_nil)) (dl_f rfl (by wtm_at "sz") ?_))
    wtm_at "go"
    refine re_v (ve_fx (xk_OutOfRange B) (xc_OutOfRange B).no (ve_var rfl) rfl) ?_
    wtm_at "go"
    refine rc_v (vc_isX (xk_OutOfRange B) (xi_OutOfRange_TooGreatError B)) ?_
    wtm_at "go"
    refine rc_v (vc_isXt (xk_OutOfRange B) (xv_OutOfRange B)) ?_
    wtm_at "go"
    refine ro_v (vo_in (c := false) rfl rfl rfl rfl) ?_
    wtm_at "go"
    exact hR
/-- what is refused, by which name -/
inductive Refs : Str → List D → Str → Prop
  | cls {x y n : Int} : n < 1 ∨ n > 900 → Refs "class" [.tup [.int x, .int y], .int n] "n"
  | tot {n : Int} : n < 1 ∨ n > 900 → Refs "total" [.int n] "n"
  | lst {n : Int} : n < 1 ∨ n > 60 → Refs "list" [.int n] "n"
  | coaN {cs : List (Int × Int)} {n d : Int} : n < 1 ∨ n > 900 → Refs "coarsened" [.tup (cs.map prD), .int n, .int d] "n"
  | coaD {cs : List (Int × Int)} {n d : Int} : 1 ≤ n → n ≤ 900 → d < 1 ∨ d > 900 ∨ ¬ d ∣ n → Refs "coarsened" [.tup (cs.map prD), .int n, .int d] "d"
  | isc {cs : List (Int × Int)} {n : Int} : n < 1 ∨ n > 900 → Refs "is" [.tup (cs.map prD), .int n] "n"
  | fra {cs : List (Int × Int)} {n : Int} : n < 1 ∨ n > 900 → Refs "fraction" [.tup (cs.map prD), .int n] "n"
theorem Refs.call {word nm : Str} {th : List D} {μ : Mu} {R : W → Mu → Prop} {X : Value → List (Str × D) → Mu → Prop} (h : Refs word th nm) (hR : R (.dat (refD nm)) μ) : fs__law_call [.s word, .dat (.lst th)] μ R X := by
  refine ⟨word, th, rfl, ?_⟩
  cases h with
  | cls h => exact .inl ⟨_, _, _, rfl, rfl, fun _ => hR, fun _ _ => by omega⟩
  | tot h => exact .inr (.inl ⟨_, rfl, rfl, fun _ => hR, fun _ _ => by omega⟩)
  | lst h => exact .inr (.inr (.inl ⟨_, rfl, rfl, fun _ => hR, fun _ _ => by omega⟩))
  | coaN h => exact .inr (.inr (.inr (.inl ⟨_, _, _, rfl, rfl, fun _ => hR, fun _ _ => by omega⟩)))
  | coaD n1 n2 h => exact .inr (.inr (.inr (.inl ⟨_, _, _, rfl, rfl, fun _ => by omega, fun _ _ => ⟨fun _ => hR, fun d1 d2 => by
      have := Int.le_of_dvd (by omega) d2
      rcases h with h | h | h
      · omega
      · omega
      · exact absurd d2 h⟩⟩)))
  | isc h => exact .inr (.inr (.inr (.inr (.inl ⟨_, _, rfl, rfl, fun _ => hR, fun _ _ => by omega⟩))))
  | fra h => exact .inr (.inr (.inr (.inr (.inr ⟨_, _, rfl, rfl, fun _ => hR, fun _ _ => by omega⟩))))

/-! _law_same: whether two data are equal, in kind too -/
def fs__law_same : FS := fun ws μ R _ => ∃ a b : D, ws = [.dat a, .dat b] ∧ a.ok = true ∧ b.ok = true ∧ b.sz ≤ 1000000 ∧ ∀ r : Bool, (r = true ↔ a = b) → R (.b r) μ
theorem len_szL : ∀ ys : List D, ys.length ≤ D.szL ys
  | [] => Nat.le_refl 0
  | y :: ys => by rw [List.length_cons, D.szL]; have := len_szL ys; have := D.sz_pos y; omega
def stk (q : List (D × D)) : HC := .lst (q.reverse.map pw)
theorem stk_pop (p : D × D) (r : List (D × D)) : ((p :: r).reverse.map pw)[((p :: r).reverse.map pw).length - 1]? = some (pw p) ∧ ((p :: r).reverse.map pw).dropLast = r.reverse.map pw := by
  rw [List.reverse_cons, List.map_append]
  simp
theorem stk_push (p : D × D) (r : List (D × D)) : r.reverse.map pw ++ [pw p] = (p :: r).reverse.map pw := by
  rw [List.reverse_cons, List.map_append]
  rfl
theorem fn__law_same (B : Base P w K mg base) : Fn P w K mg base "_law_same" 1 ["told", "due"] fs__law_same := by
  refine fn_mk (st := s__law_same) (gl__law_same B) (df__law_same B) sc__law_same (fun ws μ R X h => (by first | exact h.1 | (obtain ⟨_, rfl, _⟩ := h; rfl) | (obtain ⟨_, _, rfl, _⟩ := h; rfl) | (obtain ⟨_, _, _, rfl, _⟩ := h; rfl) | (obtain ⟨_, _, _, _, rfl, _⟩ := h; rfl) | (obtain ⟨_, _, _, _, _, rfl, _⟩ := h; rfl) | (obtain ⟨_, _, _, _, _, _, rfl, _⟩ := h; rfl) | (obtain ⟨_, _, _, _, _, _, _, rfl, _⟩ := h; rfl) | (obtain ⟨_, _, _, _, _, _, _, _, rfl, _⟩ := h; rfl))) (fun _ _ _ _ _ _ us hl => match us, hl with | [_, _], _ => rfl) fun cdv A outer s H E hr => ⟨_, (pss_cons (ps_set (i := 2) sc__law_same.nd rfl (Or.inl rfl) (pe_lst (pa_cons (pe_tup (pa_cons (pv 0) (pa_cons (pv 1) pa_nil))) pa_nil)))
  (pss_cons (ps_for (passes_of rfl) rfl (pi_range1 rfl (fr_range B) (pa_cons pe_int pa_nil)) (pg_name (i := 3) sc__law_same.nd rfl (Or.inl rfl)) (pss_cons (ps_if (pt_cmpR op_eq (pe_callB cr_len (by rfl) (fr_len B) (by decide +kernel) (pa_cons (pv 2) pa_nil)) pe_int (nomark _)) (pss_one ps_break) pss_nil)
  (pss_cons (ps_set (i := 4) sc__law_same.nd rfl (Or.inl rfl) (pe_bm0 PySem.F.plainAttrs_list PySem.F.slot_list_pop PySem.F.type_list_pop mt_pop (pv 2)))
  (pss_cons (ps_set (i := 5) sc__law_same.nd rfl (Or.inl rfl) (pe_ix ix_seq (pv 4) pe_int (fun _ _ => rfl)))
  (pss_cons (ps_set (i := 6) sc__law_same.nd rfl (Or.inl rfl) (pe_ix ix_seq (pv 4) pe_int (fun _ _ => rfl)))
  (pss_one (ps_if (pt_cmpR op_isNon (pv 6) pe_non (nomark _)) (pss_one (ps_if (pt_cmpR op_notNon (pv 5) pe_non (nomark _)) (pss_one (ps_ret pe_bl)) pss_nil)) (pss_one (ps_if (pt_val (pe_callB call_isi (by rfl) (fr_isinstance B) (by decide +kernel) (pa_cons (pv 6) (pa_cons (pe_bltn (v := .ty "bool") rfl (fr_bool B) (by decide +kernel) rfl) pa_nil)))) (pss_one (ps_if (PW.pt (pw_or (pt_not (pt_val (pe_callB call_isi (by rfl) (fr_isinstance B) (by decide +kernel) (pa_cons (pv 5) (pa_cons (pe_bltn (v := .ty "bool") rfl (fr_bool B) (by decide +kernel) rfl) pa_nil))))) (pw_or1 (pt_cmpR op_ne (pv 5) (pv 6) (nomark _))))) (pss_one (ps_ret pe_bl)) pss_nil)) (pss_one (ps_if (pt_val (pe_callB call_isi (by rfl) (fr_isinstance B) (by decide +kernel) (pa_cons (pv 6) (pa_cons (pe_bltn (v := .ty "int") rfl (fr_int B) (by decide +kernel) rfl) pa_nil)))) (pss_one (ps_if (PW.pt (pw_or (pt_not (pt_val (pe_callB call_isi (by rfl) (fr_isinstance B) (by decide +kernel) (pa_cons (pv 5) (pa_cons (pe_bltn (v := .ty "int") rfl (fr_int B) (by decide +kernel) rfl) pa_nil))))) (pw_or (pt_val (pe_callB call_isi (by rfl) (fr_isinstance B) (by decide +kernel) (pa_cons (pv 5) (pa_cons (pe_bltn (v := .ty "bool") rfl (fr_bool B) (by decide +kernel) rfl) pa_nil)))) (pw_or1 (pt_cmpR op_ne (pv 5) (pv 6) (nomark _)))))) (pss_one (ps_ret pe_bl)) pss_nil)) (pss_one (ps_if (pt_val (pe_callB call_isi (by rfl) (fr_isinstance B) (by decide +kernel) (pa_cons (pv 6) (pa_cons (pe_bltn (v := .ty "str") rfl (fr_str B) (by decide +kernel) rfl) pa_nil)))) (pss_one (ps_if (PW.pt (pw_or (pt_not (pt_val (pe_callB call_isi (by rfl) (fr_isinstance B) (by decide +kernel) (pa_cons (pv 5) (pa_cons (pe_bltn (v := .ty "str") rfl (fr_str B) (by decide +kernel) rfl) pa_nil))))) (pw_or1 (pt_cmpR op_ne (pv 5) (pv 6) (nomark _))))) (pss_one (ps_ret pe_bl)) pss_nil)) (pss_one (ps_if (pt_val (pe_callB call_isi (by rfl) (fr_isinstance B) (by decide +kernel) (pa_cons (pv 6) (pa_cons (pe_bltn (v := .ty "dict") rfl (fr_dict B) (by decide +kernel) rfl) pa_nil)))) pss_never (pss_cons (ps_if (PW.pt (pw_and (pt_val (pe_callB call_isi (by rfl) (fr_isinstance B) (by decide +kernel) (pa_cons (pv 6) (pa_cons (pe_bltn (v := .ty "tuple") rfl (fr_tuple B) (by decide +kernel) rfl) pa_nil)))) (pw_and1 (pt_not (pt_val (pe_callB call_isi (by rfl) (fr_isinstance B) (by decide +kernel) (pa_cons (pv 5) (pa_cons (pe_bltn (v := .ty "tuple") rfl (fr_tuple B) (by decide +kernel) rfl) pa_nil)))))))) (pss_one (ps_ret pe_bl)) pss_nil)
  (pss_cons (ps_if (PW.pt (pw_and (pt_val (pe_callB call_isi (by rfl) (fr_isinstance B) (by decide +kernel) (pa_cons (pv 6) (pa_cons (pe_bltn (v := .ty "list") rfl (fr_list B) (by decide +kernel) rfl) pa_nil)))) (pw_and1 (pt_not (pt_val (pe_callB call_isi (by rfl) (fr_isinstance B) (by decide +kernel) (pa_cons (pv 5) (pa_cons (pe_bltn (v := .ty "list") rfl (fr_list B) (by decide +kernel) rfl) pa_nil)))))))) (pss_one (ps_ret pe_bl)) pss_nil)
  (pss_cons (ps_if (pt_cmpR op_ne (pe_callB cr_len (by rfl) (fr_len B) (by decide +kernel) (pa_cons (pv 5) pa_nil)) (pe_callB cr_len (by rfl) (fr_len B) (by decide +kernel) (pa_cons (pv 6) pa_nil)) (nomark _)) (pss_one (ps_ret pe_bl)) pss_nil)
  (pss_one (ps_for (passes_of rfl) rfl (pi_range1 rfl (fr_range B) (pa_cons (pe_callB cr_len (by rfl) (fr_len B) (by decide +kernel) (pa_cons (pv 6) pa_nil)) pa_nil)) (pg_name (i := 8) sc__law_same.nd rfl (Or.inl rfl)) (pss_one (ps_expr (pe_bm PySem.F.plainAttrs_list PySem.F.slot_list_append PySem.F.type_list_append mt_append (pv 2) (pa_cons (pe_tup (pa_cons (pe_ix ix_seq (pv 5) (pv 8) (fun _ _ => rfl)) (pa_cons (pe_ix ix_seq (pv 6) (pv 8) (fun _ _ => rfl)) pa_nil))) pa_nil))))))))))))))))))))))))
  (pss_one (ps_ret pe_bl)))), fun ws μ R X h => ?_⟩
  obtain ⟨a, b, rfl, oa, ob, hz, hR⟩ := h
  have hT : a = b → R (.b true) μ := fun e => hR true ⟨fun _ => e, fun _ => rfl⟩
  have hF : ¬ a = b → R (.b false) μ := fun e => hR false ⟨fun h => (by cases h), fun h => absurd h e⟩
  clear hR
  change RS _ _ [some _, some _, none, none, none, none, none, none, none] _ _
  (try dsimp only [cxOf])
  wtm_at "rs"
  refine rs_asg (re_lst (ra_cons (re_tup (ra_v (by wtm_at "va") ⟨_, rfl, by wtm_at "sz", ra_nil (dl_o (by wtm_at "sz") fun l => rg_name rfl ?_)⟩))))
  dsimp only [List.set_cons_zero, List.set_cons_succ]
  wtm_at "rs"
  refine rs_to (fun ε' μ' => ∃ q o3 o4 o5 o6 o7 o8, ε' = [some (.dat a), some (.dat b), some (.at l), o3, o4, o5, o6, o7, o8] ∧ a = b ∧ μ' = (l, stk q) :: μ) ?_ ?_
  rotate_left
  · rintro ε' μ' ⟨q, o3, o4, o5, o6, o7, o8, rfl, e, rfl⟩
    refine rs_fgt 1 ?_
    rw [List.drop_one, List.tail_cons]
    wtm_at "rs"
    exact hT e
  refine rs_forR1 (fun i ε' μ' => ∃ ps o3 o4 o5 o6 o7 o8, ε' = [some (.dat a), some (.dat b), some (.at l), o3, o4, o5, o6, o7, o8] ∧ μ' = (l, stk ps) :: μ ∧ SameI a b i ps) (by wtm_at "va") (by decide) (by decide) ⟨[(a, b)], _, _, _, _, _, _, rfl, rfl, .start oa ob⟩ ?_ ?_
  rotate_left
  · rintro ε' μ' ⟨ps, o3, o4, o5, o6, o7, o8, rfl, rfl, hs⟩
    have h1 := hs.sz
    have h2 := szS_len ps
    cases ps with
    | nil => exact ⟨_, _, _, _, _, _, _, rfl, hs.yes, rfl⟩
    | cons p r =>
      have h3 := D.sz_pos p.2
      rw [szS] at h1
      have h4 : (10000000 : Int).toNat = 10000000 := by decide
      rw [h4] at h1
      omega
  rintro i ε' μ' hi ⟨ps, o3, o4, o5, o6, o7, o8, rfl, rfl, hs⟩
  wtm_at "rs"
  have hlen : (ps.reverse.map pw).length = ps.length := by rw [List.length_map, List.length_reverse]
  refine rs_ifv (vt_test (ve_op (ve_cb (by wtm_at "va") (vc_lenA0 rfl)) ve_int vo_eqI)) ?_ ?_
  · intro hb; (try simp only [decide_eq_true_eq, decide_eq_false_iff_not, Bool.not_eq_true', Bool.and_eq_true, Bool.or_eq_true, Bool.not_eq_false', Bool.and_eq_false_imp, Bool.or_eq_false_iff, Bool.not_true, Bool.not_false] at hb)
    cases ps with
    | cons p r =>
      rw [hlen, List.length_cons] at hb
      omega
    | nil =>
      wtm_at "rs"
      exact ⟨_, _, _, _, _, _, _, rfl, hs.yes, rfl⟩
  · intro hb; (try simp only [decide_eq_true_eq, decide_eq_false_iff_not, Bool.not_eq_true', Bool.and_eq_true, Bool.or_eq_true, Bool.not_eq_false', Bool.and_eq_false_imp, Bool.or_eq_false_iff, Bool.not_true, Bool.not_false] at hb)
    cases ps with
    | nil => exact absurd rfl hb
    | cons p ps =>
      obtain ⟨d, e⟩ := p
      wtm_at "rs"
      wtm_at "rs"
      refine rs_asg (re_pop (k := 0) (by wtm_at "ve") rfl (stk_pop (d, e) ps).1 (rg_name rfl ?_))
      rw [(stk_pop (d, e) ps).2]
      change RS _ _ [some (.dat a), some (.dat b), some (.at l), some (.i (i : Int)), some (.dat (.tup [d, e])), o5, o6, o7, o8] ((l, stk ps) :: μ) _
      repeat wtm_at "rs"
      have hd := (hs.ok _ List.mem_cons_self).1
      have he := (hs.ok _ List.mem_cons_self).2
      have hno := fun z : d ≠ e => hF (hs.no z)
      have hgo := fun z : d = e => hs.leaf z
      dsimp only at hd he
      cases e with
      | ty _ => cases he
      | cls _ => cases he
      | exc _ _ _ => cases he
      | non =>
        wtm_at "ifT"
        cases d with
        | ty _ => cases hd
        | cls _ => cases hd
        | exc _ _ _ => cases hd
        | non =>
          wtm_at "ifF"
          wtm_at "rs"
          exact ⟨ps, _, _, _, _, _, _, rfl, rfl, hgo rfl⟩
        | _ =>
          wtm_at "ifT"
          refine rs_fgt 1 ?_
          wtm_at "rs"
          exact hno (by intro z; cases z)
      | bl x =>
        wtm_at "ifF"
        wtm_at "ifT"
        cases d with
        | ty _ => cases hd
        | cls _ => cases hd
        | exc _ _ _ => cases hd
        | bl y =>
          refine rs_ifv (by wtm_at "vt") ?_ ?_
          · intro hb
            refine rs_fgt 1 ?_
            wtm_at "rs"
            exact hno (by intro z; cases z; simp at hb)
          · intro hb
            wtm_at "rs"
            exact ⟨ps, _, _, _, _, _, _, rfl, rfl, hgo (by simp at hb; rw [hb])⟩
        | _ =>
          wtm_at "ifT"
          refine rs_fgt 1 ?_
          wtm_at "rs"
          exact hno (by intro z; cases z)
      | int x =>
        wtm_at "ifF"
        wtm_at "ifF"
        wtm_at "ifT"
        cases d with
        | ty _ => cases hd
        | cls _ => cases hd
        | exc _ _ _ => cases hd
        | int y =>
          refine rs_ifv (by wtm_at "vt") ?_ ?_
          · intro hb
            refine rs_fgt 1 ?_
            wtm_at "rs"
            exact hno (by intro z; cases z; simp at hb)
          · intro hb
            wtm_at "rs"
            exact ⟨ps, _, _, _, _, _, _, rfl, rfl, hgo (by simp at hb; rw [hb])⟩
        | _ =>
          wtm_at "ifT"
          refine rs_fgt 1 ?_
          wtm_at "rs"
          exact hno (by intro z; cases z)
      | str x =>
        wtm_at "ifF"
        wtm_at "ifF"
        wtm_at "ifF"
        wtm_at "ifT"
        cases d with
        | ty _ => cases hd
        | cls _ => cases hd
        | exc _ _ _ => cases hd
        | str y =>
          refine rs_ifv (by wtm_at "vt") ?_ ?_
          · intro hb
            refine rs_fgt 1 ?_
            wtm_at "rs"
            exact hno (by intro z; cases z; simp at hb)
          · intro hb
            wtm_at "rs"
            exact ⟨ps, _, _, _, _, _, _, rfl, rfl, hgo (by simp at hb; rw [hb])⟩
        | _ =>
          wtm_at "ifT"
          refine rs_fgt 1 ?_
          wtm_at "rs"
          exact hno (by intro z; cases z)
      | tup ys =>
        wtm_at "ifF"
        wtm_at "ifF"
        wtm_at "ifF"
        wtm_at "ifF"
        wtm_at "ifF"
        cases d with
        | ty _ => cases hd
        | cls _ => cases hd
        | exc _ _ _ => cases hd
        | tup xs =>
          repeat (wtm_at "rs"; (wtm_at "ifF"; refine rs_next ?_))
          have hzz := szS_len ps
          have hsz := hs.sz
          rw [szS, D.sz] at hsz
          have hyl := len_szL ys
          wtm_at "rs"
          refine rs_ifv (by wtm_at "vt") ?_ ?_
          · intro hb
            refine rs_fgt 1 ?_
            wtm_at "rs"
            exact hno (by intro z; cases z; simp at hb)
          intro hb
          have hl : xs.length = ys.length := by simp at hb; omega
          wtm_at "rs"
          refine rs_to (fun ε' μ' => ∃ o7 o8, ε' = [some (.dat a), some (.dat b), some (.at l), some (.i (i : Int)), some (.dat (.tup [.tup xs, .tup ys])), some (.dat (.tup xs)), some (.dat (.tup ys)), o7, o8] ∧ μ' = (l, stk ((xs.zip ys).reverse ++ ps)) :: μ) ?_ ?_
          rotate_left
          · rintro ε' μ' ⟨o7, o8, rfl, rfl⟩
            exact ⟨_, _, _, _, _, _, _, rfl, rfl, hs.seq hl hd he (by constructor <;> (intro z; cases z; rfl)) (by rw [D.sz])⟩
          refine rs_forR1 (fun j ε' μ' => ∃ o7 o8, ε' = [some (.dat a), some (.dat b), some (.at l), some (.i (i : Int)), some (.dat (.tup [.tup xs, .tup ys])), some (.dat (.tup xs)), some (.dat (.tup ys)), o7, o8] ∧ μ' = (l, stk (((xs.zip ys).take j).reverse ++ ps)) :: μ) (by wtm_at "va") (by omega) (by omega) ⟨_, _, rfl, rfl⟩ ?_ ?_
          rotate_left
          · rintro ε' μ' ⟨o7, o8, rfl, rfl⟩
            refine ⟨_, _, rfl, ?_⟩
            rw [Int.toNat_natCast, List.take_of_length_le (by rw [List.length_zip]; omega)]
          rintro j ε' μ' hj ⟨o7, o8, rfl, rfl⟩
          have hj2 : j < ys.length := by omega
          have hj1 : j < xs.length := by omega
          refine rs_append (k := 0) (by wtm_at "ve") rfl (re_tup (ra_v (va_cons (ve_op (by wtm_at "ve") (by wtm_at "ve") (vo_ixT (Sn.atI_nat (List.getElem?_eq_getElem hj1)))) (va_cons (ve_op (by wtm_at "ve") (by wtm_at "ve") (vo_ixT (Sn.atI_nat (List.getElem?_eq_getElem hj2)))) va_nil)) ⟨_, rfl, by wtm_at "sz", 0, _, rfl, ?_, _, _, rfl, ?_⟩))
          · rw [List.length_map, List.length_reverse, List.length_append, List.length_reverse, List.length_take, List.length_zip]
            have : (1000002 : Nat) ≤ sizeLine := by decide
            omega
          · show _ = (l, stk _) :: μ
            have e1 : (xs.zip ys)[j]? = some (xs[j], ys[j]) := by
              rw [List.getElem?_eq_getElem (by rw [List.length_zip]; omega), List.getElem_zip]
            have e2 : ((xs.zip ys).take (j + 1)).reverse ++ ps = (xs[j], ys[j]) :: (((xs.zip ys).take j).reverse ++ ps) := by
              rw [take_snoc e1, List.reverse_append]
              rfl
            rw [e2]
            show _ = (l, HC.lst _) :: μ
            rw [← stk_push]
            rfl
        | _ =>
          wtm_at "rs"
          first
          | (wtm_at "ifT"
             refine rs_fgt 1 ?_
             wtm_at "rs"
             exact hno (by intro z; cases z))
          | ((wtm_at "ifF"; refine rs_next ?_)
             wtm_at "rs"
             wtm_at "ifT"
             refine rs_fgt 1 ?_
             wtm_at "rs"
             exact hno (by intro z; cases z))
      | lst ys =>
        wtm_at "ifF"
        wtm_at "ifF"
        wtm_at "ifF"
        wtm_at "ifF"
        wtm_at "ifF"
        cases d with
        | ty _ => cases hd
        | cls _ => cases hd
        | exc _ _ _ => cases hd
        | lst xs =>
          repeat (wtm_at "rs"; (wtm_at "ifF"; refine rs_next ?_))
          have hzz := szS_len ps
          have hsz := hs.sz
          rw [szS, D.sz] at hsz
          have hyl := len_szL ys
          wtm_at "rs"
          refine rs_ifv (by wtm_at "vt") ?_ ?_
          · intro hb
            refine rs_fgt 1 ?_
            wtm_at "rs"
            exact hno (by intro z; cases z; simp at hb)
          intro hb
          have hl : xs.length = ys.length := by simp at hb; omega
          wtm_at "rs"
          refine rs_to (fun ε' μ' => ∃ o7 o8, ε' = [some (.dat a), some (.dat b), some (.at l), some (.i (i : Int)), some (.dat (.tup [.lst xs, .lst ys])), some (.dat (.lst xs)), some (.dat (.lst ys)), o7, o8] ∧ μ' = (l, stk ((xs.zip ys).reverse ++ ps)) :: μ) ?_ ?_
          rotate_left
          · rintro ε' μ' ⟨o7, o8, rfl, rfl⟩
            exact ⟨_, _, _, _, _, _, _, rfl, rfl, hs.seq hl hd he (by constructor <;> (intro z; cases z; rfl)) (by rw [D.sz])⟩
          refine rs_forR1 (fun j ε' μ' => ∃ o7 o8, ε' = [some (.dat a), some (.dat b), some (.at l), some (.i (i : Int)), some (.dat (.tup [.lst xs, .lst ys])), some (.dat (.lst xs)), some (.dat (.lst ys)), o7, o8] ∧ μ' = (l, stk (((xs.zip ys).take j).reverse ++ ps)) :: μ) (by wtm_at "va") (by omega) (by omega) ⟨_, _, rfl, rfl⟩ ?_ ?_
          rotate_left
          · rintro ε' μ' ⟨o7, o8, rfl, rfl⟩
            refine ⟨_, _, rfl, ?_⟩
            rw [Int.toNat_natCast, List.take_of_length_le (by rw [List.length_zip]; omega)]
          rintro j ε' μ' hj ⟨o7, o8, rfl, rfl⟩
          have hj2 : j < ys.length := by omega
          have hj1 : j < xs.length := by omega
          refine rs_append (k := 0) (by wtm_at "ve") rfl (re_tup (ra_v (va_cons (ve_op (by wtm_at "ve") (by wtm_at "ve") (vo_ixL (Sn.atI_nat (List.getElem?_eq_getElem hj1)))) (va_cons (ve_op (by wtm_at "ve") (by wtm_at "ve") (vo_ixL (Sn.atI_nat (List.getElem?_eq_getElem hj2)))) va_nil)) ⟨_, rfl, by wtm_at "sz", 0, _, rfl, ?_, _, _, rfl, ?_⟩))
          · rw [List.length_map, List.length_reverse, List.length_append, List.length_reverse, List.length_take, List.length_zip]
            have : (1000002 : Nat) ≤ sizeLine := by decide
            omega
          · show _ = (l, stk _) :: μ
            have e1 : (xs.zip ys)[j]? = some (xs[j], ys[j]) := by
              rw [List.getElem?_eq_getElem (by rw [List.length_zip]; omega), List.getElem_zip]
            have e2 : ((xs.zip ys).take (j + 1)).reverse ++ ps = (xs[j], ys[j]) :: (((xs.zip ys).take j).reverse ++ ps) := by
              rw [take_snoc e1, List.reverse_append]
              rfl
            rw [e2]
            show _ = (l, HC.lst _) :: μ
            rw [← stk_push]
            rfl
        | _ =>
          wtm_at "rs"
          first
          | (wtm_at "ifT"
             refine rs_fgt 1 ?_
             wtm_at "rs"
             exact hno (by intro z; cases z))
          | ((wtm_at "ifF"; refine rs_next ?_)
             wtm_at "rs"
             wtm_at "ifT"
             refine rs_fgt 1 ?_
             wtm_at "rs"
             exact hno (by intro z; cases z))
theorem sameT {E : En} {ε : Ep} {μ : Mu} {Ψ : W → Mu → Prop} {a b : D} (e : a = b) (ob : b.ok = true) (hz : b.sz ≤ 1000000) (q : Ψ (.b true) μ) : CallF E fs__law_same [.dat a, .dat b] ε μ Ψ := ⟨0, a, b, rfl, e ▸ ob, ob, hz, fun r hr => by
  have : r = true := hr.mpr e
  subst this
  exact q⟩
theorem sameTI {E : En} {ε : Ep} {μ : Mu} {Ψ : W → Mu → Prop} {as bs : List Int} (e : as = bs) (hl : bs.length ≤ 900000) (q : Ψ (.b true) μ) : CallF E fs__law_same [.dat (.tup (as.map .int)), .dat (.tup (bs.map .int))] ε μ Ψ := sameT (by rw [e]) (by rw [D.ok]; exact okI bs) (by rw [D.sz, szI]; omega) q
theorem sameLI {E : En} {ε : Ep} {μ : Mu} {Ψ : W → Mu → Prop} {as bs : List Int} (e : as = bs) (hl : bs.length ≤ 900000) (q : Ψ (.b true) μ) : CallF E fs__law_same [.dat (.lst (as.map .int)), .dat (.lst (bs.map .int))] ε μ Ψ := sameT (by rw [e]) (by rw [D.ok]; exact okI bs) (by rw [D.sz, szI]; omega) q
theorem sameToldT {E : En} {ε : Ep} {μ : Mu} {Ψ : W → Mu → Prop} {x : Str} {as bs : List Int} (e : as = bs) (hl : bs.length ≤ 900000) (q : Ψ (.b true) μ) : CallF E fs__law_same [.dat (.tup [.str x, .tup (as.map .int)]), .dat (.tup [.str x, .tup (bs.map .int)])] ε μ Ψ := by
  have e1 : (D.str x).sz = 1 := by simp [D.sz]
  have e2 : (D.str x).ok = true := rfl
  exact sameT (by rw [e]) (by rw [D.ok, D.okL, D.okL, D.ok, D.okL, okI, e2]; rfl) (by rw [D.sz, D.szL, D.szL, D.sz, D.szL, szI, e1]; omega) q
theorem sameP {μ : Mu} {Ψ : W → Mu → Prop} {ws : List W} {a b : D} (hr : RdWs μ ws [.dat a, .dat b]) (e : a = b) (ob : b.ok = true) (hz : b.sz ≤ 1000000) (q : Ψ (.b true) μ) : CallP fs__law_same ws μ Ψ := ⟨_, hr, a, b, rfl, e ▸ ob, ob, hz, fun r h => ⟨.bl r, rfl, rfl, by
  have h2 : r = true := h.mpr e
  rw [h2]; exact q⟩⟩
theorem ok_toldP (x : Str) (ps : List (Int × Int)) : (D.tup [.str x, .lst (ps.map prD)]).ok = true := by
  have e2 : (D.str x).ok = true := rfl
  rw [D.ok, D.okL, D.okL, D.ok, D.okL, okP, e2]; rfl
theorem sz_toldP (x : Str) {ps : List (Int × Int)} (h : ps.length ≤ 300000) : (D.tup [.str x, .lst (ps.map prD)]).sz ≤ 1000000 := by
  have e1 : (D.str x).sz = 1 := by simp [D.sz]
  rw [D.sz, D.szL, D.szL, D.sz, D.szL, szP, e1]; omega
theorem sameToldPP {E : En} {ε : Ep} {μ : Mu} {Ψ : W → Mu → Prop} {x : Str} {ps qs : List (Int × Int)} (e : ps = qs) (hl : qs.length ≤ 300000) (q : Ψ (.b true) μ) : CallF E fs__law_same [.dat (.tup [.str x, .lst (ps.map prD)]), .dat (.tup [.str x, .lst (qs.map prD)])] ε μ Ψ := sameT (by rw [e]) (ok_toldP x qs) (sz_toldP x hl) q

/-! class_key: the key of a class -/
def fs_class_key : FS := fun ws μ R _ => ∃ cs : List (Int × Int), ws = [.dat (.tup (cs.map prD))] ∧ cs.length ≤ 997 ∧ R (.dat (.tup ((ckL cs).map .int))) μ
theorem fn_class_key (B : Base P w K mg base) : Fn P w K mg base "class_key" 2 ["c"] fs_class_key := by
  refine fn_mk (st := s_class_key) (gl_class_key B) (df_class_key B) sc_class_key (fun ws μ R X h => (by first | exact h.1 | (obtain ⟨_, rfl, _⟩ := h; rfl) | (obtain ⟨_, _, rfl, _⟩ := h; rfl) | (obtain ⟨_, _, _, rfl, _⟩ := h; rfl) | (obtain ⟨_, _, _, _, rfl, _⟩ := h; rfl) | (obtain ⟨_, _, _, _, _, rfl, _⟩ := h; rfl) | (obtain ⟨_, _, _, _, _, _, rfl, _⟩ := h; rfl) | (obtain ⟨_, _, _, _, _, _, _, rfl, _⟩ := h; rfl) | (obtain ⟨_, _, _, _, _, _, _, _, rfl, _⟩ := h; rfl))) (fun _ _ _ _ _ _ us hl => match us, hl with | [_], _ => rfl) fun cdv A outer s H E hr => ⟨_, (pss_cons (ps_set (i := 1) sc_class_key.nd rfl (Or.inl rfl) (pe_lst pa_nil))
  (pss_cons (ps_for (passes_of rfl) rfl (pi_tup (pv 0)) (pg_tup (n := 2) (by rfl) (pgs_cons (pg_name (i := 2) sc_class_key.nd rfl (Or.inl rfl)) (pgs_cons (pg_name (i := 3) sc_class_key.nd rfl (Or.inl rfl)) pgs_nil))) (pss_one (ps_if (pt_cmpR op_eq (pv 3) pe_int (nomark _)) (pss_cons (ps_expr (pe_bm PySem.F.plainAttrs_list PySem.F.slot_list_append PySem.F.type_list_append mt_append (pv 1) (pa_cons pe_int pa_nil)))
  (pss_one (ps_expr (pe_bm PySem.F.plainAttrs_list PySem.F.slot_list_append PySem.F.type_list_append mt_append (pv 1) (pa_cons (pv 2) pa_nil))))) (pss_cons (ps_expr (pe_bm PySem.F.plainAttrs_list PySem.F.slot_list_append PySem.F.type_list_append mt_append (pv 1) (pa_cons pe_int pa_nil)))
  (pss_one (ps_expr (pe_bm PySem.F.plainAttrs_list PySem.F.slot_list_append PySem.F.type_list_append mt_append (pv 1) (pa_cons (pv 3) pa_nil))))))))
  (pss_one (ps_ret (pe_callTy cr_tupleOf (by rfl) (fr_tuple B) (by decide +kernel) (pa_cons (pv 1) pa_nil)))))), fun ws μ R X h => ?_⟩
  obtain ⟨cs, rfl, hl, hR⟩ := h
  change RS _ _ [some _, none, none, none] _ _
  (try dsimp only [cxOf])
  wtm_at "go"
  refine re_lst ?_
  wtm_at "go"
  refine dl_o (by wtm_at "sz") fun l => ?_
  wtm_at "nx"
  refine rs_slot2 2 3 (fun _ _ μ' => (l, HC.lst (((ckL cs).map .int).map .dat)) :: μ = μ') ?_ ?_
  · refine rs_forI2 2 3 (fun i _ _ μ' => (l, HC.lst (((ckL (cs.take i)).map .int).map .dat)) :: μ = μ') (ri_tup (re_v (by wtm_at "ve") ⟨_, rfl, ⟨_, _, rfl, rfl, rfl⟩, ?_, ?_⟩))
    · rintro i d o2 o3 _ hd rfl
      rw [List.getElem?_map] at hd
      obtain ⟨⟨a, b⟩, hq, rfl⟩ := Option.map_eq_some_iff.mp hd
      have hil := (List.getElem?_eq_some_iff.mp hq).1
      have hll : ((((ckL (cs.take i)).map D.int).map W.dat)).length ≤ 2000 := by
        rw [List.length_map, List.length_map, ckL_len, List.length_take]; omega
      have e : ckL (cs.take (i + 1)) = ckL (cs.take i) ++ if b = 1 then [0, a] else [1, b] := by
        rw [take_snoc hq]
        unfold ckL
        rw [List.flatMap_append, List.flatMap_cons, List.flatMap_nil, List.append_nil]
      rw [e]
      refine rg_tup rfl (rgs_cons (rg_name rfl (rgs_cons (rg_name rfl (rgs_nil ?_)))))
      dsimp only [List.set_cons_zero, List.set_cons_succ]
      refine rs_ifv (by wtm_at "vt") (fun z => ?_) (fun z => ?_)
      · have z := of_decide_eq_true z
        rw [if_pos z]
        wtm_at "rs"
        refine rs_append (k := 0) (by wtm_at "ve") rfl (re_v (by wtm_at "ve") ⟨0, _, rfl, len_lt (by omega), ?_⟩)
        refine rs_append (k := 0) (by wtm_at "ve") rfl (re_v (by wtm_at "ve") ⟨0, _, rfl, len_lt (by rw [List.length_append]; show _ + 1 < _; omega), ?_⟩)
        refine ⟨_, _, rfl, ?_⟩
        simp only [List.map_append, List.append_assoc]
        rfl
      · have z := of_decide_eq_false z
        rw [if_neg z]
        wtm_at "rs"
        refine rs_append (k := 0) (by wtm_at "ve") rfl (re_v (by wtm_at "ve") ⟨0, _, rfl, len_lt (by omega), ?_⟩)
        refine rs_append (k := 0) (by wtm_at "ve") rfl (re_v (by wtm_at "ve") ⟨0, _, rfl, len_lt (by rw [List.length_append]; show _ + 1 < _; omega), ?_⟩)
        refine ⟨_, _, rfl, ?_⟩
        simp only [List.map_append, List.append_assoc]
        rfl
    · rintro o2 o3 _ rfl
      rw [List.length_map, List.take_length]
      exact ⟨_, _, rfl, rfl⟩
  rintro _ _ _ rfl
  dsimp only [List.set_cons_zero, List.set_cons_succ]
  refine rs_ret (re_sub ?_)
  wtm_at "go"
  refine rc_tupA (k := 0) (ds := (ckL cs).map .int) rfl ?_
  exact ⟨μ, .cons _ (.refl _), hR⟩

/-! _law_list_right: the whole list, its length, its keys -/
theorem cnt_mul {p q : Int} (hp : 0 < p) (hq : 0 ≤ q) : (prog 0 (p * q) p).length = q.toNat := by
  unfold prog
  rw [List.length_map, List.length_range]
  have h : ∀ k : Nat, k < cnt 0 (p * q) p ↔ (k : Int) < q := fun k => by
    rw [cnt_lt hp, Int.zero_add, Int.mul_comm p q]
    exact ⟨fun z => Int.lt_of_mul_lt_mul_right z (by omega), fun z => Int.mul_lt_mul_of_pos_right z hp⟩
  have h1 := h (cnt 0 (p * q) p)
  have h2 := h q.toNat
  have h3 : ¬ (q.toNat : Int) < q := by omega
  have h4 : ¬ q.toNat < cnt 0 (p * q) p := fun z => h3 (h2.mp z)
  have h5 : ¬ ((cnt 0 (p * q) p : Nat) : Int) < q := fun z => Nat.lt_irrefl _ (h1.mpr z)
  omega
theorem clsL_length {p : Int} (hp : 2 ≤ p) {e : Nat} (he : 1 ≤ e) : ((clsL p e).length : Int) = p ^ e + p ^ (e - 1) := by
  have h1 := pow_one_le hp e
  have h2 := pow_one_le hp (e - 1)
  have e1 : p ^ e = p * p ^ (e - 1) := by rw [Int.mul_comm, ← Int.pow_succ, Nat.succ_eq_add_one, Nat.sub_add_cancel he]
  have a := cnt_mul (p := p) (q := p ^ (e - 1)) (by omega) (by omega)
  have b := cnt_mul (p := 1) (q := p ^ e) (by decide) (by omega)
  rw [← e1] at a
  rw [Int.one_mul] at b
  unfold clsL
  rw [if_neg (by omega), List.length_append, List.length_map, List.length_map, a, b]
  omega
theorem len_flat {α β : Type} {L : Nat} {f : α → List β} : ∀ {M : List α}, (∀ x ∈ M, (f x).length = L) → (M.flatMap f).length = M.length * L
  | [], _ => by rw [List.length_nil, Nat.zero_mul]; rfl
  | x :: M, h => by
    rw [List.flatMap_cons, List.length_append, h x List.mem_cons_self, len_flat fun y hy => h y (List.mem_cons_of_mem _ hy), List.length_cons, Nat.succ_mul, Nat.add_comm]
theorem clM_tot {n : Int} (n1 : 1 ≤ n) (n2 : n ≤ 900) : ∀ i, i ≤ (pf n).length → ((clM ((pf n).take i)).length : Int) = totP ((pf n).take i)
  | 0, _ => rfl
  | i + 1, hi => by
    have hg : (pf n)[i]? = some (pf n)[i] := List.getElem?_eq_getElem (by omega)
    have hm := (pf_ok n1 n2).m _ (List.getElem_mem (show i < (pf n).length by omega))
    rw [take_snoc hg, clM_snoc, totP_snoc, len_flat (L := (clsL (pf n)[i].1 (pf n)[i].2.toNat).length) fun x _ => by rw [List.length_map], ← clM_tot n1 n2 i (by omega), ← clsL_length hm.1.2.1 (by have := hm.2.1; omega), Int.natCast_mul]
theorem lex_same (a : List Int) {x y : List Int} : HT.lexLt (a ++ x) (a ++ y) = HT.lexLt x y := by
  induction a with
  | nil => rfl
  | cons c a ih => rw [List.cons_append, List.cons_append, HT.lexLt_cons, if_pos rfl, ih]
theorem lex_app : ∀ {a b : List Int}, a.length = b.length → HT.lexLt a b = true → ∀ x y : List Int, HT.lexLt (a ++ x) (b ++ y) = true
  | [], [], _, h, _, _ => by cases h
  | [], _ :: _, hl, _, _, _ => by simp at hl
  | _ :: _, [], hl, _, _, _ => by simp at hl
  | c :: a, d :: b, hl, h, x, y => by
    rw [HT.lexLt_cons] at h
    rw [List.cons_append, List.cons_append, HT.lexLt_cons]
    by_cases z : c = d
    · rw [if_pos z] at h ⊢
      exact lex_app (by simpa using hl) h x y
    · rw [if_neg z] at h ⊢
      exact h
theorem clsL_keys {p : Int} (hp : 2 ≤ p) {e : Nat} (he : 1 ≤ e) : (clsL p e).Pairwise fun c d => HT.lexLt (ckL [c]) (ckL [d]) = true := by
  have k1 : ∀ r : Int, ckL [(r, 1)] = [0, r] := fun r => rfl
  have k2 : ∀ s : Int, s ≠ 1 → ckL [(1, s)] = [1, s] := fun s h => by
    unfold ckL
    rw [List.flatMap_cons, List.flatMap_nil, List.append_nil, if_neg h]
  have l2 : ∀ a b c d : Int, a < c ∨ (a = c ∧ b < d) → HT.lexLt [a, b] [c, d] = true := fun a b c d h => by
    rw [HT.lexLt_cons]
    rcases h with h | ⟨rfl, h⟩
    · rw [if_neg (by omega), decide_eq_true h]
    · rw [if_pos rfl, HT.lexLt_cons, if_neg (by omega), decide_eq_true h]
  have h1 : ∀ s ∈ prog 0 (p ^ e) p, s ≠ 1 := fun s hs z => by
    have h3 := ((prog_mem (by omega)).mp hs).2.2
    rw [z, Int.sub_zero] at h3
    exact no_one hp h3
  unfold clsL
  rw [if_neg (by omega)]
  refine List.pairwise_append.mpr ⟨?_, ?_, ?_⟩
  · rw [List.pairwise_map]
    exact (prog_sorted (by decide)).imp fun h => by rw [k1, k1]; exact l2 _ _ _ _ (.inr ⟨rfl, h⟩)
  · rw [List.pairwise_map]
    have hs := prog_sorted (lo := 0) (hi := p ^ e) (c := p) (by omega)
    refine (List.Pairwise.and_mem.mp hs).imp fun {a b} h => ?_
    rw [k2 _ (h1 _ h.1), k2 _ (h1 _ h.2.1)]
    exact l2 _ _ _ _ (.inr ⟨rfl, h.2.2⟩)
  · intro a ha b hb
    obtain ⟨r, _, rfl⟩ := List.mem_map.mp ha
    obtain ⟨s, hs, rfl⟩ := List.mem_map.mp hb
    rw [k1, k2 _ (h1 _ hs)]
    exact l2 _ _ _ _ (.inl (by decide))
theorem ckL_app (a b : List (Int × Int)) : ckL (a ++ b) = ckL a ++ ckL b := by unfold ckL; rw [List.flatMap_append]
theorem clM_sorted {n : Int} (n1 : 1 ≤ n) (n2 : n ≤ 900) : ∀ i, i ≤ (pf n).length → (clM ((pf n).take i)).Pairwise fun r s => HT.lexLt (ckL r) (ckL s) = true
  | 0, _ => List.pairwise_singleton ..
  | i + 1, hi => by
    have hg : (pf n)[i]? = some (pf n)[i] := List.getElem?_eq_getElem (by omega)
    have hm := (pf_ok n1 n2).m _ (List.getElem_mem (show i < (pf n).length by omega))
    have ih := clM_sorted n1 n2 i (by omega)
    have hr := clM_row2 (pf n) i (by omega)
    rw [take_snoc hg, clM_snoc, List.pairwise_flatMap]
    refine ⟨fun row _ => ?_, ?_⟩
    · rw [List.pairwise_map]
      exact (clsL_keys hm.1.2.1 (by have := hm.2.1; omega)).imp fun h => by rw [ckL_app, ckL_app, lex_same]; exact h
    · refine (List.Pairwise.and_mem.mp ih).imp fun {a b} h x hx y hy => ?_
      obtain ⟨c, _, rfl⟩ := List.mem_map.mp hx
      obtain ⟨d, _, rfl⟩ := List.mem_map.mp hy
      rw [ckL_app, ckL_app]
      exact lex_app (by rw [ckL_len, ckL_len, hr a h.1, hr b h.2.1]) h.2.2 _ _
theorem okR : ∀ M : List (List (Int × Int)), D.okL (M.map rowD) = true
  | [] => rfl
  | r :: M => by
    rw [List.map_cons, D.okL, okR M]
    unfold rowD
    rw [D.ok, okP]; rfl
theorem szR : ∀ (M : List (List (Int × Int))) (L : Nat), (∀ r ∈ M, r.length ≤ L) → D.szL (M.map rowD) ≤ M.length * (3 * L + 1)
  | [], _, _ => by show 0 ≤ _; omega
  | r :: M, L, h => by
    have h1 := szR M L fun r hr => h r (List.mem_cons_of_mem _ hr)
    have h2 := h r List.mem_cons_self
    rw [List.map_cons, D.szL, List.length_cons, Nat.succ_mul]
    unfold rowD at h1 ⊢
    rw [D.sz, szP]
    omega
def fs__law_list_right : FS := fun ws μ R _ => ∃ n : Int, ws = [.i n] ∧ 1 ≤ n ∧ n ≤ 60 ∧ ∀ μ', μ.Sublist μ' → R (.b true) μ'
theorem fn__law_list_right (B : Base P w K mg base) : Fn P w K mg base "_law_list_right" 9 ["n"] fs__law_list_right := by
  have F__law_classes_modulo := fn__law_classes_modulo B
  have F__law_call := fn__law_call B
  have F__law_same := fn__law_same B
  have F_class_key := fn_class_key B
  refine fn_mk (st := s__law_list_right) (gl__law_list_right B) (df__law_list_right B) sc__law_list_right (fun ws μ R X h => (by first | exact h.1 | (obtain ⟨_, rfl, _⟩ := h; rfl) | (obtain ⟨_, _, rfl, _⟩ := h; rfl) | (obtain ⟨_, _, _, rfl, _⟩ := h; rfl) | (obtain ⟨_, _, _, _, rfl, _⟩ := h; rfl) | (obtain ⟨_, _, _, _, _, rfl, _⟩ := h; rfl) | (obtain ⟨_, _, _, _, _, _, rfl, _⟩ := h; rfl) | (obtain ⟨_, _, _, _, _, _, _, rfl, _⟩ := h; rfl) | (obtain ⟨_, _, _, _, _, _, _, _, rfl, _⟩ := h; rfl))) (fun _ _ _ _ _ _ us hl => match us, hl with | [_], _ => rfl) fun cdv A outer s H E hr => ⟨_, (pss_cons (ps_set (i := 1) sc__law_list_right.nd rfl (Or.inl rfl) (pe_fn F__law_classes_modulo hr (by decide) rfl (takes_of rfl rfl rfl rfl) (pa_cons (pv 0) pa_nil)))
  (pss_cons (ps_set (i := 2) sc__law_list_right.nd rfl (Or.inl rfl) (pe_fn F__law_call hr (by decide) rfl (takes_of rfl rfl rfl rfl) (pa_cons pe_str (pa_cons (pe_lst (pa_cons (pv 0) pa_nil)) pa_nil))))
  (pss_cons (ps_if (PW.pt (pw_or (pt_not (pt_val (pe_fn F__law_same hr (by decide) rfl (takes_of rfl rfl rfl rfl) (pa_cons (pv 2) (pa_cons (pe_tup (pa_cons pe_str (pa_cons (pv 1) pa_nil))) pa_nil))))) (pw_or1 (pt_not (pt_val (pe_fn F__law_same hr (by decide) rfl (takes_of rfl rfl rfl rfl) (pa_cons (pe_fn F__law_call hr (by decide) rfl (takes_of rfl rfl rfl rfl) (pa_cons pe_str (pa_cons (pe_lst (pa_cons (pv 0) pa_nil)) pa_nil))) (pa_cons (pe_tup (pa_cons pe_str (pa_cons (pe_callB cr_len (by rfl) (fr_len B) (by decide +kernel) (pa_cons (pv 1) pa_nil)) pa_nil))) pa_nil)))))))) (pss_one (ps_ret pe_bl)) pss_nil)
  (pss_cons (ps_for (passes_of rfl) rfl (pi_range2 rfl (fr_range B) (pa_cons pe_int (pa_cons (pe_callB cr_len (by rfl) (fr_len B) (by decide +kernel) (pa_cons (pv 1) pa_nil)) pa_nil))) (pg_name (i := 3) sc__law_list_right.nd rfl (Or.inl rfl)) (pss_one (ps_if (pt_not (pt_cmpR (op_ltT hr.units0) (pe_fn F_class_key hr (by decide) rfl (takes_of rfl rfl rfl rfl) (pa_cons (pe_ix ix_seq (pv 1) (pe_op op_sub (pv 3) pe_int) (fun _ _ => rfl)) pa_nil)) (pe_fn F_class_key hr (by decide) rfl (takes_of rfl rfl rfl rfl) (pa_cons (pe_ix ix_seq (pv 1) (pv 3) (fun _ _ => rfl)) pa_nil)) (nomark _))) (pss_one (ps_ret pe_bl)) pss_nil)))
  (pss_cons (ps_expr (pe_bm0 PySem.F.plainAttrs_list PySem.F.slot_list_clear PySem.F.type_list_clear mt_clear (pe_ix ix_seq (pv 2) pe_int (fun _ _ => rfl))))
  (pss_one (ps_ret (pe_fn F__law_same hr (by decide) rfl (takes_of rfl rfl rfl rfl) (pa_cons (pe_fn F__law_call hr (by decide) rfl (takes_of rfl rfl rfl rfl) (pa_cons pe_str (pa_cons (pe_lst (pa_cons (pv 0) pa_nil)) pa_nil))) (pa_cons (pe_tup (pa_cons pe_str (pa_cons (pv 1) pa_nil))) pa_nil)))))))))), fun ws μ R X h => ?_⟩
  obtain ⟨n, rfl, n1, n2, hR⟩ := h
  change RS _ _ [some _, none, none, none] _ _
  (try dsimp only [cxOf])
  have hln := pf_len n1 (show n ≤ 900 by omega)
  have hT := clM_tot n1 (show n ≤ 900 by omega) (pf n).length (Nat.le_refl _)
  have hs := clM_sorted n1 (show n ≤ 900 by omega) (pf n).length (Nat.le_refl _)
  have hl := clM_len n1 n2 (i := (pf n).length) (Nat.le_refl _)
  have hr := clM_row2 (pf n) (pf n).length (Nat.le_refl _)
  rw [List.take_length] at hT hs hl hr
  have hR : ∀ μ', μ.Sublist μ' → R (.b true) μ' := hR
  wtm_at "go"
  refine callF1 ⟨n, rfl, n1, n2, ?_⟩
  obtain ⟨M, hM⟩ : ∃ M, M = clM (pf n) := ⟨_, rfl⟩
  rw [← hM] at hT hs hl hr ⊢
  have e1 : (D.str "told").sz = 1 := by simp [D.sz]
  have e2 : (D.str "told").ok = true := rfl
  have ok : (D.tup [.str "told", .lst (M.map rowD)]).ok = true := by rw [D.ok, D.okL, D.okL, D.ok, D.okL, okR, e2]; rfl
  have sz : (D.tup [.str "told", .lst (M.map rowD)]).sz ≤ 1000000 := by
    have h1 := szR M 9 fun r h => by rw [hr r h]; exact hln
    have h2 := Nat.mul_le_mul_right (3 * 9 + 1) hl
    rw [D.sz, D.szL, D.szL, D.sz, D.szL, e1]; omega
  wtm_at "go"
  wtm_at "fl"
  refine callF1 ⟨_, _, rfl, .inr (.inr (.inl ⟨n, rfl, rfl, fun z => by omega, fun _ _ l => ?_⟩))⟩
  rw [← hM]
  wtm_at "nx"
  refine rs_if (rt_or (rt_not (rt_B (re_view 2 _ rfl (rd_told (.head _)) ?_))))
  dsimp only [List.set_cons_zero, List.set_cons_succ]
  wtm_at "go"
  refine sameT rfl ok sz ⟨_, rfl, rfl, ?_⟩
  wtm_at "go"
  wtm_at "fl"
  refine callF1 ⟨_, _, rfl, .inr (.inl ⟨n, rfl, rfl, fun z => by omega, fun _ _ => ?_⟩)⟩
  rw [← hT]
  wtm_at "go"
  refine sameT (by rw [List.length_map]) rfl (by show 3 ≤ 1000000; decide) ?_
  wtm_at "nx"
  refine rs_slot 3 (fun _ μ' => (l, HC.lst ((M.map rowD).map .dat)) :: μ = μ') ?_ ?_
  · refine rs_forI1 3 (fun _ _ μ' => (l, HC.lst ((M.map rowD).map .dat)) :: μ = μ') (ri_rng2 ?_)
    wtm_at "go"
    refine ⟨1, _, rfl, by rw [List.length_map]; omega, ⟨_, rfl, rfl⟩, ?_, fun o _ h => ⟨_, rfl, h⟩⟩
    rintro i d o _ hd rfl
    have hi := (List.getElem?_eq_some_iff.mp hd).1
    rw [rng_length, List.length_map] at hi
    rw [rng_at (by rw [List.length_map]; exact hi)] at hd
    cases hd
    obtain ⟨a, ha⟩ : ∃ a, M[i]? = some a := ⟨_, List.getElem?_eq_getElem (by omega)⟩
    obtain ⟨b, hb⟩ : ∃ b, M[i + 1]? = some b := ⟨_, List.getElem?_eq_getElem (by omega)⟩
    have hlt : HT.lexLt (ckL a) (ckL b) = true := by
      obtain ⟨h1, e1⟩ := List.getElem?_eq_some_iff.mp ha
      obtain ⟨h2, e2⟩ := List.getElem?_eq_some_iff.mp hb
      have := List.pairwise_iff_getElem.mp hs i (i + 1) h1 h2 (by omega)
      rwa [e1, e2] at this
    have la := hr a (List.mem_of_getElem? ha)
    have lb := hr b (List.mem_of_getElem? hb)
    have ia : atI (M.map rowD) (1 + (i : Int) - 1) = some (.tup (a.map prD)) := by rw [show 1 + (i : Int) - 1 = (i : Int) by omega]; exact Sn.atI_nat (by rw [List.getElem?_map, ha]; rfl)
    have ib : atI (M.map rowD) (1 + (i : Int)) = some (.tup (b.map prD)) := by rw [show 1 + (i : Int) = ((i + 1 : Nat) : Int) by omega]; exact Sn.atI_nat (by rw [List.getElem?_map, hb]; rfl)
    refine rg_name rfl ?_
    dsimp only [List.set_cons_zero, List.set_cons_succ]
    wtm_at "go"
    refine callF1 ⟨a, rfl, by omega, ?_⟩
    wtm_at "go"
    refine callF1 ⟨b, rfl, by omega, ?_⟩
    refine ro_v vo_ltT ?_
    rw [hlt]
    wtm_at "go"
    exact ⟨_, rfl, rfl⟩
  rintro _ _ rfl
  dsimp only [List.set_cons_zero, List.set_cons_succ]
  wtm_at "rs"
  refine rs_clear (k := 0) (by wtm_at "ve") rfl ?_
  refine rs_ret (re_callP ?_)
  wtm_at "go"
  wtm_at "fl"
  refine callF1 ⟨_, _, rfl, .inr (.inr (.inl ⟨n, rfl, rfl, fun z => by omega, fun _ _ l2 => ?_⟩))⟩
  rw [← hM]
  wtm_at "go"
  exact sameP (.cons (rd_told (.head _)) (.cons .same .nil)) rfl ok sz (hR _ (.cons _ (.cons _ (.refl _))))

/-! _law_refuses: the refusal of that name -/
def fs__law_refuses : FS := fun ws μ R _ => ∃ (word nm : Str) (th : List D), ws = [.s word, .dat (.lst th), .s nm] ∧ Refs word th nm ∧ R (.b true) μ
theorem fn__law_refuses (B : Base P w K mg base) : Fn P w K mg base "_law_refuses" 8 ["word", "things", "name"] fs__law_refuses := by
  have F__law_same := fn__law_same B
  have F__law_call := fn__law_call B
  refine fn_mk (st := s__law_refuses) (gl__law_refuses B) (df__law_refuses B) sc__law_refuses (fun ws μ R X h => (by first | exact h.1 | (obtain ⟨_, rfl, _⟩ := h; rfl) | (obtain ⟨_, _, rfl, _⟩ := h; rfl) | (obtain ⟨_, _, _, rfl, _⟩ := h; rfl) | (obtain ⟨_, _, _, _, rfl, _⟩ := h; rfl) | (obtain ⟨_, _, _, _, _, rfl, _⟩ := h; rfl) | (obtain ⟨_, _, _, _, _, _, rfl, _⟩ := h; rfl) | (obtain ⟨_, _, _, _, _, _, _, rfl, _⟩ := h; rfl) | (obtain ⟨_, _, _, _, _, _, _, _, rfl, _⟩ := h; rfl))) (fun _ _ _ _ _ _ us hl => match us, hl with | [_, _, _], _ => rfl) fun cdv A outer s H E hr => ⟨_, (pss_one (ps_ret (pe_fn F__law_same hr (by decide) rfl (takes_of rfl rfl rfl rfl) (pa_cons (pe_fn F__law_call hr (by decide) rfl (takes_of rfl rfl rfl rfl) (pa_cons (pv 0) (pa_cons (pv 1) pa_nil))) (pa_cons (pe_tup (pa_cons pe_str (pa_cons (pv 2) (pa_cons pe_bl (pa_cons pe_bl (pa_cons pe_bl pa_nil)))))) pa_nil))))), fun ws μ R X h => ?_⟩
  obtain ⟨word, nm, th, rfl, hr, hR⟩ := h
  change RS _ _ [some _, some _, some _] _ _
  (try dsimp only [cxOf])
  wtm_at "go"
  refine callF1 (hr.call ?_)
  wtm_at "go"
  refine sameT rfl rfl (by show 6 ≤ 1000000; decide) ?_
  exact hR

/-! _law_divisor: the greatest common divisor by an own Euclid of bounded length -/
def fs__law_divisor : FS := fun ws μ R _ => ∃ a b : Int, ws = [.i a, .i b] ∧ Bd 90000 a ∧ Bd 90000 b ∧ R (.i (Int.gcd a b : Nat)) μ
/-- one turn halves the product, once the first is the greater -/
theorem euclid_half {m n : Nat} (h : n ≤ m) : n * (m % n) * 2 ≤ m * n := by
  rcases Nat.eq_zero_or_pos n with rfl | hn
  · simp
  · have h1 := Nat.mod_lt m hn
    have h2 := Nat.div_add_mod m n
    have h3 : 1 ≤ m / n := (Nat.one_le_div_iff hn).mpr h
    have h4 : n * 1 ≤ n * (m / n) := Nat.mul_le_mul_left n h3
    have h5 : m % n * 2 ≤ m := by omega
    calc n * (m % n) * 2 = n * (m % n * 2) := by rw [Nat.mul_assoc]
      _ ≤ n * m := Nat.mul_le_mul_left n h5
      _ = m * n := Nat.mul_comm n m
/-- what holds of the two numbers ahead of turn i -/
structure Euc (g A i m n : Nat) : Prop where
  gcd : Nat.gcd m n = g
  pr : i = 0 ∨ (n ≤ m ∧ m * n * 2 ^ (i - 1) ≤ A)
  z : i = 0 → m * n ≤ A
theorem Euc.next {g A i m n : Nat} (e : Euc g A i m n) (h : n ≠ 0) : Euc g A (i + 1) n (m % n) where
  gcd := by
    rw [Nat.gcd_comm, ← Nat.gcd_rec, Nat.gcd_comm]
    exact e.gcd
  pr := .inr ⟨Nat.le_of_lt (Nat.mod_lt m (by omega)), by
    rcases e.pr with h0 | ⟨h1, h2⟩
    · subst h0
      have h3 := e.z rfl
      have h4 : m % n ≤ m := Nat.mod_le m n
      have h5 : n * (m % n) ≤ n * m := Nat.mul_le_mul_left n h4
      simp only [Nat.add_sub_cancel, Nat.pow_zero, Nat.mul_one]
      rw [Nat.mul_comm m n] at h3
      omega
    · rcases i with _ | i
      · have h3 := e.z rfl
        have h4 : m % n ≤ m := Nat.mod_le m n
        have h5 : n * (m % n) ≤ n * m := Nat.mul_le_mul_left n h4
        simp only [Nat.zero_add, Nat.sub_self, Nat.pow_zero, Nat.mul_one]
        rw [Nat.mul_comm m n] at h3
        omega
      · have h3 := euclid_half h1
        simp only [Nat.add_sub_cancel] at h2 ⊢
        rw [Nat.pow_succ, Nat.mul_comm (2 ^ i) 2, ← Nat.mul_assoc]
        exact Nat.le_trans (Nat.mul_le_mul_right (2 ^ i) h3) h2⟩
  z := fun h => by omega
theorem Euc.zero {g A i m n : Nat} (e : Euc g A i m n) (hi : i ≠ 0) (h : A < 2 ^ (i - 1)) : n = 0 := by
  rcases e.pr with h0 | ⟨h1, h2⟩
  · exact absurd h0 hi
  · rcases Nat.eq_zero_or_pos (m * n) with h3 | h3
    · rcases Nat.mul_eq_zero.mp h3 with h4 | h4 <;> omega
    · have h4 : 1 * 2 ^ (i - 1) ≤ m * n * 2 ^ (i - 1) := Nat.mul_le_mul_right _ h3
      omega
theorem fn__law_divisor (B : Base P w K mg base) : Fn P w K mg base "_law_divisor" 1 ["a", "b"] fs__law_divisor := by
  refine fn_mk (st := s__law_divisor) (gl__law_divisor B) (df__law_divisor B) sc__law_divisor (fun ws μ R X h => (by first | exact h.1 | (obtain ⟨_, rfl, _⟩ := h; rfl) | (obtain ⟨_, _, rfl, _⟩ := h; rfl) | (obtain ⟨_, _, _, rfl, _⟩ := h; rfl) | (obtain ⟨_, _, _, _, rfl, _⟩ := h; rfl) | (obtain ⟨_, _, _, _, _, rfl, _⟩ := h; rfl) | (obtain ⟨_, _, _, _, _, _, rfl, _⟩ := h; rfl) | (obtain ⟨_, _, _, _, _, _, _, rfl, _⟩ := h; rfl) | (obtain ⟨_, _, _, _, _, _, _, _, rfl, _⟩ := h; rfl))) (fun _ _ _ _ _ _ us hl => match us, hl with | [_, _], _ => rfl) fun cdv A outer s H E hr => ⟨_, (pss_cons (ps_set (i := 2) sc__law_divisor.nd rfl (Or.inl rfl) (pe_callB cr_abs (by rfl) (fr_abs B) (by decide +kernel) (pa_cons (pe_callTy cr_int1 (by rfl) (fr_int B) (by decide +kernel) (pa_cons (pv 0) pa_nil)) pa_nil)))
  (pss_cons (ps_set (i := 3) sc__law_divisor.nd rfl (Or.inl rfl) (pe_callB cr_abs (by rfl) (fr_abs B) (by decide +kernel) (pa_cons (pe_callTy cr_int1 (by rfl) (fr_int B) (by decide +kernel) (pa_cons (pv 1) pa_nil)) pa_nil)))
  (pss_cons (ps_for (passes_of rfl) rfl (pi_range1 rfl (fr_range B) (pa_cons pe_int pa_nil)) (pg_name (i := 4) sc__law_divisor.nd rfl (Or.inl rfl)) (pss_cons (ps_if (pt_cmpR op_eq (pv 3) pe_int (nomark _)) (pss_one ps_break) pss_nil)
  (pss_cons (ps_set (i := 5) sc__law_divisor.nd rfl (Or.inl rfl) (pe_op op_mod (pe_callTy cr_int1 (by rfl) (fr_int B) (by decide +kernel) (pa_cons (pv 2) pa_nil)) (pv 3)))
  (pss_cons (ps_set (i := 2) sc__law_divisor.nd rfl (Or.inl rfl) (pv 3))
  (pss_one (ps_set (i := 3) sc__law_divisor.nd rfl (Or.inl rfl) (pv 5)))))))
  (pss_one (ps_ret (pv 2)))))), fun ws μ R X h => ?_⟩
  obtain ⟨a, b, rfl, ha, hb', hR⟩ := h
  change RS _ _ [some _, some _, none, none, none, none] _ _
  (try dsimp only [cxOf])
  repeat wtm_at "rs"
  refine rs_to (fun ε' μ' => ∃ k r, ε' = [some (.i a), some (.i b), some (.i (Int.gcd a b : Nat)), some (.i 0), k, r] ∧ μ' = μ) ?_ ?_
  · refine rs_forR1 (fun i ε' μ' => ∃ (m n : Nat) (k r : Option W), ε' = [some (.i a), some (.i b), some (.i m), some (.i n), k, r] ∧ μ' = μ ∧ Euc (Int.gcd a b) (a.natAbs * b.natAbs) i m n) (by wtm_at "va") (by decide) (by decide) ⟨_, _, none, none, rfl, rfl, ⟨rfl, .inl rfl, fun _ => Nat.le_refl _⟩⟩ ?_ ?_
    · rintro i ε' μ' hi ⟨m, n, k, r, rfl, rfl, he⟩
      wtm_at "rs"
      refine rs_ifv (by wtm_at "vt") ?_ ?_
      · intro hb; (try simp only [decide_eq_true_eq, decide_eq_false_iff_not, Bool.not_eq_true', Bool.and_eq_true, Bool.or_eq_true, Bool.not_eq_false', Bool.and_eq_false_imp, Bool.or_eq_false_iff, Bool.not_true, Bool.not_false] at hb)
        wtm_at "rs"
        have e0 : n = 0 := by omega
        subst e0
        have e1 := he.gcd
        rw [Nat.gcd_zero_right] at e1
        subst e1
        exact ⟨_, _, rfl, rfl⟩
      · intro hb; (try simp only [decide_eq_true_eq, decide_eq_false_iff_not, Bool.not_eq_true', Bool.and_eq_true, Bool.or_eq_true, Bool.not_eq_false', Bool.and_eq_false_imp, Bool.or_eq_false_iff, Bool.not_true, Bool.not_false] at hb)
        have hn : n ≠ 0 := by omega
        repeat wtm_at "rs"
        exact ⟨n, m % n, _, _, rfl, rfl, he.next hn⟩
    · rintro ε' μ' ⟨m, n, k, r, rfl, rfl, he⟩
      obtain ⟨j, hj⟩ : ∃ j, j = (200000 : Int).toNat := ⟨_, rfl⟩
      rw [← hj] at he
      have hj2 : j - 1 = 199999 := by omega
      have hA : a.natAbs * b.natAbs < 2 ^ 199999 := by
        have h1 : a.natAbs * b.natAbs < 2 ^ 90000 * 2 ^ 90000 := Nat.mul_lt_mul'' ha.lt hb'.lt
        rw [← Nat.pow_add] at h1
        exact Nat.lt_of_lt_of_le h1 (Nat.pow_le_pow_right (by decide) (by decide))
      have e0 : n = 0 := he.zero (by omega) (by rw [hj2]; exact hA)
      subst e0
      have e1 := he.gcd
      rw [Nat.gcd_zero_right] at e1
      subst e1
      exact ⟨_, _, rfl, rfl⟩
  · rintro ε' μ' ⟨k, r, rfl, rfl⟩
    wtm_at "rs"
    exact hR

/-! _law_lowest: the fraction in lowest terms, None of 0 / 0 -/
def fs__law_lowest : FS := fun ws μ R _ => ∃ x y : Int, ws = [.i x, .i y] ∧ Bd 8000 x ∧ Bd 8000 y ∧ R (.dat (redD x y)) μ
theorem fn__law_lowest (B : Base P w K mg base) : Fn P w K mg base "_law_lowest" 2 ["x", "y"] fs__law_lowest := by
  have F__law_divisor := fn__law_divisor B
  refine fn_mk (st := s__law_lowest) (gl__law_lowest B) (df__law_lowest B) sc__law_lowest (fun ws μ R X h => (by first | exact h.1 | (obtain ⟨_, rfl, _⟩ := h; rfl) | (obtain ⟨_, _, rfl, _⟩ := h; rfl) | (obtain ⟨_, _, _, rfl, _⟩ := h; rfl) | (obtain ⟨_, _, _, _, rfl, _⟩ := h; rfl) | (obtain ⟨_, _, _, _, _, rfl, _⟩ := h; rfl) | (obtain ⟨_, _, _, _, _, _, rfl, _⟩ := h; rfl) | (obtain ⟨_, _, _, _, _, _, _, rfl, _⟩ := h; rfl) | (obtain ⟨_, _, _, _, _, _, _, _, rfl, _⟩ := h; rfl))) (fun _ _ _ _ _ _ us hl => match us, hl with | [_, _], _ => rfl) fun cdv A outer s H E hr => ⟨_, (pss_cons (ps_set (i := 2) sc__law_lowest.nd rfl (Or.inl rfl) (pe_fn F__law_divisor hr (by decide) rfl (takes_of rfl rfl rfl rfl) (pa_cons (pv 0) (pa_cons (pv 1) pa_nil))))
  (pss_cons (ps_if (pt_cmpR op_eq (pv 2) pe_int (nomark _)) (pss_one (ps_ret pe_non)) pss_nil)
  (pss_cons (ps_if (PW.pt (pw_or (pt_cmpR op_lt (pv 1) pe_int (nomark _)) (pw_or1 (PW.pt (pw_and (pt_cmpR op_eq (pv 1) pe_int (nomark _)) (pw_and1 (pt_cmpR op_lt (pv 0) pe_int (nomark _)))))))) (pss_one (ps_set (i := 2) sc__law_lowest.nd rfl (Or.inl rfl) (pe_un un_neg (pv 2)))) pss_nil)
  (pss_one (ps_ret (pe_tup (pa_cons (pe_op op_fdivX (pv 0) (pv 2)) (pa_cons (pe_op op_fdivX (pv 1) (pv 2)) pa_nil)))))))), fun ws μ R X h => ?_⟩
  obtain ⟨x, y, rfl, hx, hy, hR⟩ := h
  change RS _ _ [some _, some _, none] _ _
  (try dsimp only [cxOf])
  wtm_at "rs"
  refine rs_asg (re_call (ra_v (by wtm_at "va") (callF0 ⟨x, y, rfl, hx.up (by decide), hy.up (by decide), rg_name rfl ?_⟩)))
  rw [List.append_nil]
  dsimp only [List.set_cons_zero, List.set_cons_succ]
  wtm_at "rs"
  refine rs_ifv (by wtm_at "vt") ?_ ?_
  · intro hb; (try simp only [decide_eq_true_eq, decide_eq_false_iff_not, Bool.not_eq_true', Bool.and_eq_true, Bool.or_eq_true, Bool.not_eq_false', Bool.and_eq_false_imp, Bool.or_eq_false_iff, Bool.not_true, Bool.not_false] at hb)
    wtm_at "rs"
    have h0 : x = 0 ∧ y = 0 := Int.gcd_eq_zero_iff.mp (by omega)
    rw [redD, if_pos h0] at hR
    exact hR
  intro hb; (try simp only [decide_eq_true_eq, decide_eq_false_iff_not, Bool.not_eq_true', Bool.and_eq_true, Bool.or_eq_true, Bool.not_eq_false', Bool.and_eq_false_imp, Bool.or_eq_false_iff, Bool.not_true, Bool.not_false] at hb)
  have h0 : ¬ (x = 0 ∧ y = 0) := fun z => hb (by rw [Int.gcd_eq_zero_iff.mpr z]; rfl)
  rw [redD, if_neg h0] at hR
  have hgb := gcd_bd hx hy
  wtm_at "rs"
  wtm_at "rs"
  refine rs_to (fun ε' μ' => ε' = [some (.i x), some (.i y), some (.i (sgd x y))] ∧ μ' = μ) ?_ ?_
  · refine rs_ifv (by wtm_at "vt") ?_ ?_
    · intro hb; (try simp only [decide_eq_true_eq, decide_eq_false_iff_not, Bool.not_eq_true', Bool.and_eq_true, Bool.or_eq_true, Bool.not_eq_false', Bool.and_eq_false_imp, Bool.or_eq_false_iff, Bool.not_true, Bool.not_false] at hb)
      wtm_at "rs"
      refine ⟨?_, rfl⟩
      rw [sgd, if_pos hb]
    · intro hb; (try simp only [decide_eq_true_eq, decide_eq_false_iff_not, Bool.not_eq_true', Bool.and_eq_true, Bool.or_eq_true, Bool.not_eq_false', Bool.and_eq_false_imp, Bool.or_eq_false_iff, Bool.not_true, Bool.not_false] at hb)
      wtm_at "rs"
      refine ⟨?_, rfl⟩
      rw [sgd, if_neg (by omega)]
  rintro ε' μ' ⟨rfl, rfl⟩
  have hs0 : sgd x y ≠ 0 := by
    unfold sgd
    split <;> omega
  have hsb : Bd 8000 (sgd x y) := by
    unfold sgd
    split
    · exact hgb.neg
    · exact hgb
  refine rs_ret (re_tup (ra_v (by wtm_at "va") ⟨_, rfl, by wtm_at "sz", hR⟩))

/-! _law_any: some fraction -/
def fs__law_any : FS := fun ws μ R _ => ∃ (st : Addr) (s : List W), ws = [.at st] ∧ μ = [(st, .lst s)] ∧ Sto s ∧ ∀ (x y : Int) s', Sto s' → Lt x y → Bd 800 x → Bd 800 y → R (.dat (.tup [.int x, .int y])) [(st, .lst s')]
theorem red_bd {n : Nat} {x y : Int} (h : ¬ (x = 0 ∧ y = 0)) (hx : Bd n x) (hy : Bd n y) : ∃ p q, redD x y = .tup [.int p, .int q] ∧ Lt p q ∧ Bd n p ∧ Bd n q := by
  obtain ⟨p, q, s, e1, e2, hs, hl, e3⟩ := low_of h
  refine ⟨p, q, by rw [redD, if_neg h]; exact e3, hl, ?_, ?_⟩
  · have := abs_le_mul (p := p) hs
    rw [← e1] at this
    exact ⟨Nat.lt_of_le_of_lt this hx.lt⟩
  · have := abs_le_mul (p := q) hs
    rw [← e2] at this
    exact ⟨Nat.lt_of_le_of_lt this hy.lt⟩
theorem fn__law_any (B : Base P w K mg base) : Fn P w K mg base "_law_any" 4 ["store"] fs__law_any := by
  have F__law_lowest := fn__law_lowest B
  have F__law_take := fn__law_take B
  refine fn_mk (st := s__law_any) (gl__law_any B) (df__law_any B) sc__law_any (fun ws μ R X h => (by first | exact h.1 | (obtain ⟨_, rfl, _⟩ := h; rfl) | (obtain ⟨_, _, rfl, _⟩ := h; rfl) | (obtain ⟨_, _, _, rfl, _⟩ := h; rfl) | (obtain ⟨_, _, _, _, rfl, _⟩ := h; rfl) | (obtain ⟨_, _, _, _, _, rfl, _⟩ := h; rfl) | (obtain ⟨_, _, _, _, _, _, rfl, _⟩ := h; rfl) | (obtain ⟨_, _, _, _, _, _, _, rfl, _⟩ := h; rfl) | (obtain ⟨_, _, _, _, _, _, _, _, rfl, _⟩ := h; rfl))) (fun _ _ _ _ _ _ us hl => match us, hl with | [_], _ => rfl) fun cdv A outer s H E hr => ⟨_, (pss_cons (ps_set (i := 1) sc__law_any.nd rfl (Or.inl rfl) (pe_ix ix_seq (pe_lst (pa_cons pe_int (pa_cons pe_int (pa_cons (pe_op op_mulW (pe_op op_mulW (pe_op op_mulW (pe_op op_pow pe_int pe_int) (pe_op op_pow pe_int pe_int)) (pe_op op_pow pe_int pe_int)) (pe_op op_pow pe_int pe_int)) pa_nil)))) (pe_fn F__law_take hr (by decide) rfl (takes_of rfl rfl rfl rfl) (pa_cons (pv 0) (pa_cons pe_int pa_nil))) (fun _ _ => rfl)))
  (pss_one (ps_ret (pe_fn F__law_lowest hr (by decide) rfl (takes_of rfl rfl rfl rfl) (pa_cons (pe_op op_sub (pe_fn F__law_take hr (by decide) rfl (takes_of rfl rfl rfl rfl) (pa_cons (pv 0) (pa_cons (pe_op op_mul pe_int (pv 1)) pa_nil))) (pv 1)) (pa_cons (pe_op op_add pe_int (pe_fn F__law_take hr (by decide) rfl (takes_of rfl rfl rfl rfl) (pa_cons (pv 0) (pa_cons (pv 1) pa_nil)))) pa_nil)))))), fun ws μ R X h => ?_⟩
  obtain ⟨st, s, rfl, rfl, hS, hR⟩ := h
  change RS _ _ [some _, none] _ _
  (try dsimp only [cxOf])
  wtm_at "rs"
  refine rs_asg (re_op (re_lst ?_))
  wtm_at "go"
  refine dl_f rfl (by wtm_at "sz") ?_
  wtm_at "go"
  refine take0 2 (by decide +kernel) hS fun r s1 hS1 r0 r1 _ => ?_
  wtm_at "go"
  refine ro_pickL (fun d => ∃ m, d = D.int m ∧ 5 ≤ m ∧ Bd 700 m) r0 r1 ⟨⟨_, rfl, by decide, ⟨by decide +kernel⟩⟩, ⟨_, rfl, by decide, ⟨by decide +kernel⟩⟩, ⟨_, rfl, by decide +kernel, ⟨by decide +kernel⟩⟩, trivial⟩ ?_
  rintro _ ⟨m, rfl, m5, mb⟩
  wtm_at "go"
  refine takeF 0 rfl hS1 (((show Bd 2 2 from ⟨by decide⟩).mul mb).up (by decide)) fun a s2 hS2 a0 a1 => ?_
  wtm_at "go"
  refine takeF 0 rfl hS2 (mb.up (by decide)) fun b s3 hS3 b0 b1 => ?_
  have hx : Bd 700 (a - m) := mb.le (by omega)
  have hy : Bd 700 (1 + b) := mb.le (by omega)
  wtm_at "go"
  obtain ⟨p, q, e, hl, hp, hq⟩ := red_bd (x := a - m) (y := 1 + b) (by omega) hx hy
  refine callF0 ⟨_, _, rfl, hx.up (by decide), hy.up (by decide), ?_⟩
  rw [e]
  exact hR p q s3 hS3 hl (hp.up (by decide)) (hq.up (by decide))

/-! _law_is_whole: an int that is no bool -/
def fs__law_is_whole : FS := fun ws μ R _ => ∃ x : Int, ws = [.i x] ∧ R (.b true) μ
theorem fn__law_is_whole (B : Base P w K mg base) : Fn P w K mg base "_law_is_whole" 1 ["told"] fs__law_is_whole := by
  refine fn_mk (st := s__law_is_whole) (gl__law_is_whole B) (df__law_is_whole B) sc__law_is_whole (fun ws μ R X h => (by first | exact h.1 | (obtain ⟨_, rfl, _⟩ := h; rfl) | (obtain ⟨_, _, rfl, _⟩ := h; rfl) | (obtain ⟨_, _, _, rfl, _⟩ := h; rfl) | (obtain ⟨_, _, _, _, rfl, _⟩ := h; rfl) | (obtain ⟨_, _, _, _, _, rfl, _⟩ := h; rfl) | (obtain ⟨_, _, _, _, _, _, rfl, _⟩ := h; rfl) | (obtain ⟨_, _, _, _, _, _, _, rfl, _⟩ := h; rfl) | (obtain ⟨_, _, _, _, _, _, _, _, rfl, _⟩ := h; rfl))) (fun _ _ _ _ _ _ us hl => match us, hl with | [_], _ => rfl) fun cdv A outer s H E hr => ⟨_, (pss_one (ps_ret (pe_and (pe_callB call_isi (by rfl) (fr_isinstance B) (by decide +kernel) (pa_cons (pv 0) (pa_cons (pe_bltn (v := .ty "int") rfl (fr_int B) (by decide +kernel) rfl) pa_nil))) (pe_one (pe_not (pe_callB call_isi (by rfl) (fr_isinstance B) (by decide +kernel) (pa_cons (pv 0) (pa_cons (pe_bltn (v := .ty "bool") rfl (fr_bool B) (by decide +kernel) rfl) pa_nil)))))))), fun ws μ R X h => ?_⟩
  obtain ⟨x, rfl, hR⟩ := h
  change RS _ _ [some _] _ _
  (try dsimp only [cxOf])
  wtm_at "go"
  exact hR

/-! _law_is_row: a tuple of ints -/
def fs__law_is_row : FS := fun ws μ R _ => ∃ cs : List Int, ws = [.dat (.tup (cs.map .int)), .i 1] ∧ cs.length ≤ 1000000 ∧ R (.b true) μ
theorem no_false : ∀ n : Nat, inV (.bl false) ((List.replicate n (D.bl true)).map D.v) = false
  | 0 => rfl
  | n + 1 => by
    rw [List.replicate_succ, List.map_cons]
    show (false || _) = false
    rw [Bool.false_or]
    exact no_false n
theorem fn__law_is_row (B : Base P w K mg base) : Fn P w K mg base "_law_is_row" 2 ["told", "kind"] fs__law_is_row := by
  have F__law_is_whole := fn__law_is_whole B
  refine fn_mk (st := s__law_is_row) (gl__law_is_row B) (df__law_is_row B) sc__law_is_row (fun ws μ R X h => (by first | exact h.1 | (obtain ⟨_, rfl, _⟩ := h; rfl) | (obtain ⟨_, _, rfl, _⟩ := h; rfl) | (obtain ⟨_, _, _, rfl, _⟩ := h; rfl) | (obtain ⟨_, _, _, _, rfl, _⟩ := h; rfl) | (obtain ⟨_, _, _, _, _, rfl, _⟩ := h; rfl) | (obtain ⟨_, _, _, _, _, _, rfl, _⟩ := h; rfl) | (obtain ⟨_, _, _, _, _, _, _, rfl, _⟩ := h; rfl) | (obtain ⟨_, _, _, _, _, _, _, _, rfl, _⟩ := h; rfl))) (fun _ _ _ _ _ _ us hl => match us, hl with | [_, _], _ => rfl) fun cdv A outer s H E hr => ⟨_, (pss_cons (ps_if (PW.pt (pw_and (pt_cmpR op_eq (pv 1) pe_int (nomark _)) (pw_and1 (pt_not (pt_val (pe_callB call_isi (by rfl) (fr_isinstance B) (by decide +kernel) (pa_cons (pv 0) (pa_cons (pe_bltn (v := .ty "list") rfl (fr_list B) (by decide +kernel) rfl) pa_nil)))))))) (pss_one (ps_ret pe_bl)) pss_nil)
  (pss_cons (ps_if (PW.pt (pw_and (pt_cmpR op_eq (pv 1) pe_int (nomark _)) (pw_and1 (pt_not (pt_val (pe_callB call_isi (by rfl) (fr_isinstance B) (by decide +kernel) (pa_cons (pv 0) (pa_cons (pe_bltn (v := .ty "tuple") rfl (fr_tuple B) (by decide +kernel) rfl) pa_nil)))))))) (pss_one (ps_ret pe_bl)) pss_nil)
  (pss_one (ps_ret (pe_cmpR op_notIn_seq pe_bl (pe_lcD (own := [("a", 2)]) rfl sc__law_is_row.nd (pi_tup (pv 0)) (blkOk_by (own := [("a", 2)]) (N := ["told", "kind", "a"]) (sc := defScope s__law_is_row) (by decide +kernel)) (fun _ _ _ _ _ => (pg_name (i := 2) sc__law_is_row.nd rfl (Or.inl rfl))) (fun _ _ _ _ _ => pts_nil) (fun _ _ _ _ _ => (pe_fn F__law_is_whole hr (by decide) rfl takes_no (pa_cons (pv 2) pa_nil))) (by intro _; rfl) (by intro _ _ _ _ _; (try dsimp only [Cx.blk, cxOf]) <;> exact rfl) (by intro _ _ _ _ _; (try dsimp only [Cx.blk, cxOf]) <;> exact rfl) (by intro _ _ _ _ _; (try dsimp only [Cx.blk, cxOf]) <;> exact rfl)) (by rfl)))))), fun ws μ R X h => ?_⟩
  obtain ⟨cs, rfl, hl, hR⟩ := h
  change RS _ _ [some _, some _, none] _ _
  (try dsimp only [cxOf])
  wtm_at "go"
  wtm_at "ifF"
  wtm_at "go"
  wtm_at "ifF"
  wtm_at "go"
  refine re_lc (ri_tup (re_v (by wtm_at "ve") ⟨_, rfl, fun i acc μ' => μ' = μ ∧ acc = (List.replicate i (D.bl true)).map .dat, ⟨rfl, rfl⟩, ?_, ?_⟩))
  · rintro i d acc _ hd hi ⟨rfl, rfl⟩
    obtain ⟨x, hx, rfl⟩ := at_int hd
    refine rgw_name (by decide) rfl (rt_v vt_yes ⟨fun _ => ?_, fun z => by cases z⟩)
    wtm_at "go"
    refine callF1 ⟨x, rfl, ?_⟩
    have hil := (List.getElem?_eq_some_iff.mp hx).1
    refine ⟨len_lt (by rw [List.length_map, List.length_replicate]; omega), rfl, ?_⟩
    rw [List.replicate_succ', List.map_append]
    rfl
  · rintro acc _ hi ⟨rfl, rfl⟩
    refine dl_f (undat_map _) (len_ok (by rw [List.length_replicate, List.length_map]; exact hl)) ?_
    wtm_at "go"
    refine ro_v (vo_in (c := true) rfl rfl ?_ ?_) ?_
    · rw [List.all_eq_true]
      intro x hx
      rw [List.eq_of_mem_replicate hx]
      rfl
    · show (!inV _ _) = true
      rw [show D.v (D.bl false) = V.bl false from rfl, no_false]
      rfl
    exact hR

/-! _law_places_of: the places of the items -/
def fs__law_places_of : FS := fun ws μ R _ => ∃ (cs : List (Int × Int)) (n : Int), ws = [.dat (.tup (cs.map prD)), .i n] ∧ 1 ≤ n ∧ n ≤ 900 ∧ ItR (pf n) cs ∧ R (.dat (.lst ((plL (pf n) cs).map .int))) μ
theorem plL_snoc {ps cs : List (Int × Int)} {i : Nat} {q c : Int × Int} (hq : ps[i]? = some q) (hc : cs[i]? = some c) : plL (ps.take (i + 1)) (cs.take (i + 1)) = plL (ps.take i) (cs.take i) ++ [plc q c] := by
  have h1 := (List.getElem?_eq_some_iff.mp hq).1
  have h2 := (List.getElem?_eq_some_iff.mp hc).1
  unfold plL
  rw [take_snoc hq, take_snoc hc, List.zipWith_append (by rw [List.length_take, List.length_take]; omega)]
  rfl
theorem fn__law_places_of (B : Base P w K mg base) : Fn P w K mg base "_law_places_of" 4 ["c", "n"] fs__law_places_of := by
  have F__law_parts := fn__law_parts B
  have F__law_power := fn__law_power B
  have F__law_is_row := fn__law_is_row B
  refine fn_mk (st := s__law_places_of) (gl__law_places_of B) (df__law_places_of B) sc__law_places_of (fun ws μ R X h => (by first | exact h.1 | (obtain ⟨_, rfl, _⟩ := h; rfl) | (obtain ⟨_, _, rfl, _⟩ := h; rfl) | (obtain ⟨_, _, _, rfl, _⟩ := h; rfl) | (obtain ⟨_, _, _, _, rfl, _⟩ := h; rfl) | (obtain ⟨_, _, _, _, _, rfl, _⟩ := h; rfl) | (obtain ⟨_, _, _, _, _, _, rfl, _⟩ := h; rfl) | (obtain ⟨_, _, _, _, _, _, _, rfl, _⟩ := h; rfl) | (obtain ⟨_, _, _, _, _, _, _, _, rfl, _⟩ := h; rfl))) (fun _ _ _ _ _ _ us hl => match us, hl with | [_, _], _ => rfl) fun cdv A outer s H E hr => ⟨_, (pss_cons (ps_set (i := 2) sc__law_places_of.nd rfl (Or.inl rfl) (pe_ix ix_seq (pe_fn F__law_parts hr (by decide) rfl (takes_of rfl rfl rfl rfl) (pa_cons (pv 1) pa_nil)) pe_int (fun _ _ => rfl)))
  (pss_cons (ps_if (PW.pt (pw_or (pt_not (pt_val (pe_callB call_isi (by rfl) (fr_isinstance B) (by decide +kernel) (pa_cons (pv 0) (pa_cons (pe_bltn (v := .ty "tuple") rfl (fr_tuple B) (by decide +kernel) rfl) pa_nil))))) (pw_or1 (pt_cmpR op_ne (pe_callB cr_len (by rfl) (fr_len B) (by decide +kernel) (pa_cons (pv 0) pa_nil)) (pe_callB cr_len (by rfl) (fr_len B) (by decide +kernel) (pa_cons (pv 2) pa_nil)) (nomark _))))) (pss_one (ps_ret pe_non)) pss_nil)
  (pss_cons (ps_set (i := 3) sc__law_places_of.nd rfl (Or.inl rfl) (pe_lst pa_nil))
  (pss_cons (ps_for (passes_of rfl) rfl (pi_range1 rfl (fr_range B) (pa_cons (pe_callB cr_len (by rfl) (fr_len B) (by decide +kernel) (pa_cons (pv 2) pa_nil)) pa_nil)) (pg_name (i := 4) sc__law_places_of.nd rfl (Or.inl rfl)) (pss_cons (ps_set (i := 5) sc__law_places_of.nd rfl (Or.inl rfl) (pe_ix ix_seq (pe_ix ix_seq (pv 2) (pv 4) (fun _ _ => rfl)) pe_int (fun _ _ => rfl)))
  (pss_cons (ps_set (i := 6) sc__law_places_of.nd rfl (Or.inl rfl) (pe_fn F__law_power hr (by decide) rfl (takes_of rfl rfl rfl rfl) (pa_cons (pv 5) (pa_cons (pe_ix ix_seq (pe_ix ix_seq (pv 2) (pv 4) (fun _ _ => rfl)) pe_int (fun _ _ => rfl)) pa_nil))))
  (pss_cons (ps_if (PW.pt (pw_or (pt_not (pt_val (pe_fn F__law_is_row hr (by decide) rfl (takes_of rfl rfl rfl rfl) (pa_cons (pe_ix ix_seq (pv 0) (pv 4) (fun _ _ => rfl)) (pa_cons pe_int pa_nil))))) (pw_or1 (pt_cmpR op_ne (pe_callB cr_len (by rfl) (fr_len B) (by decide +kernel) (pa_cons (pe_ix ix_seq (pv 0) (pv 4) (fun _ _ => rfl)) pa_nil)) pe_int (nomark _))))) (pss_one (ps_ret pe_non)) pss_nil)
  (pss_one (ps_if (PW.pt (pw_and (pt_cmpR op_eq (pe_ix ix_seq (pe_ix ix_seq (pv 0) (pv 4) (fun _ _ => rfl)) pe_int (fun _ _ => rfl)) pe_int (nomark _)) (pw_and1 (pt_chain op_le op_lt pe_int (pe_ix ix_seq (pe_ix ix_seq (pv 0) (pv 4) (fun _ _ => rfl)) pe_int (fun _ _ => rfl)) (pv 6))))) (pss_one (ps_expr (pe_bm PySem.F.plainAttrs_list PySem.F.slot_list_append PySem.F.type_list_append mt_append (pv 3) (pa_cons (pe_ix ix_seq (pe_ix ix_seq (pv 0) (pv 4) (fun _ _ => rfl)) pe_int (fun _ _ => rfl)) pa_nil)))) (pss_one (ps_if (PW.pt (pw_and (pt_cmpR op_eq (pe_ix ix_seq (pe_ix ix_seq (pv 0) (pv 4) (fun _ _ => rfl)) pe_int (fun _ _ => rfl)) pe_int (nomark _)) (pw_and (pt_chain op_le op_lt pe_int (pe_ix ix_seq (pe_ix ix_seq (pv 0) (pv 4) (fun _ _ => rfl)) pe_int (fun _ _ => rfl)) (pv 6)) (pw_and1 (pt_cmpR op_eq (pe_op op_mod (pe_callTy cr_int1 (by rfl) (fr_int B) (by decide +kernel) (pa_cons (pe_ix ix_seq (pe_ix ix_seq (pv 0) (pv 4) (fun _ _ => rfl)) pe_int (fun _ _ => rfl)) pa_nil)) (pv 5)) pe_int (nomark _)))))) (pss_one (ps_expr (pe_bm PySem.F.plainAttrs_list PySem.F.slot_list_append PySem.F.type_list_append mt_append (pv 3) (pa_cons (pe_op op_add (pv 6) (pe_op op_fdivW (pe_ix ix_seq (pe_ix ix_seq (pv 0) (pv 4) (fun _ _ => rfl)) pe_int (fun _ _ => rfl)) (pv 5))) pa_nil)))) (pss_one (ps_ret pe_non))))))))))
  (pss_one (ps_ret (pv 3))))))), fun ws μ R X h => ?_⟩
  obtain ⟨cs, n, rfl, n1, n2, hI, hR⟩ := h
  change RS _ _ [some _, some _, none, none, none, none, none] _ _
  (try dsimp only [cxOf])
  have ok := pf_ok n1 n2
  have hln := pf_len n1 n2
  have hcl := hI.1
  wtm_at "go"
  refine callF1 ⟨n, rfl, n1, Bd.up (n := 10) ⟨by omega⟩ (by decide), ?_⟩
  rw [lpD_eq n1 n2]
  wtm_at "nx"
  refine rs_ifF (b := false) (vt_is (vt_or (by wtm_at "vt") (fun _ => by wtm_at "vt")) ?_) rfl ?_
  · rw [List.length_map, List.length_map, hcl]
    simp
  wtm_at "go"
  refine re_lst ?_
  wtm_at "go"
  refine dl_o (by wtm_at "sz") fun l => ?_
  wtm_at "nx"
  refine rs_slot3 4 5 6 (fun _ _ _ μ' => (l, HC.lst (((plL (pf n) cs).map .int).map .dat)) :: μ = μ') ?_ ?_
  · refine rs_forI3 4 5 6 (fun i _ _ _ μ' => (l, HC.lst (((plL ((pf n).take i) (cs.take i)).map .int).map .dat)) :: μ = μ') (ri_rng1 ?_)
    wtm_at "go"
    refine ⟨_, rfl, by rw [List.length_map]; omega, by omega, ⟨_, _, _, rfl, rfl, rfl, rfl⟩, ?_, ?_⟩
    · rintro i d o4 o5 o6 _ hd rfl
      have hi := (List.getElem?_eq_some_iff.mp hd).1
      rw [rng_length, List.length_map, Int.toNat_natCast] at hi
      rw [rng_at (by rw [List.length_map, Int.toNat_natCast]; exact hi)] at hd
      cases hd
      obtain ⟨⟨p, e⟩, hq⟩ : ∃ q, (pf n)[i]? = some q := ⟨_, List.getElem?_eq_getElem hi⟩
      obtain ⟨⟨a, b⟩, hc⟩ : ∃ c, cs[i]? = some c := ⟨_, List.getElem?_eq_getElem (by omega)⟩
      have it := hI.2 i _ _ hq hc
      obtain ⟨hp, he1, he2, hdv⟩ := ok.m _ (List.mem_of_getElem? hq)
      unfold Itm at it
      dsimp only at hp he1 he2 hdv it
      obtain ⟨m1, m2, _, _⟩ := pow_le900 n1 n2 hp.2.1 hdv
      have hp2 := hp.2.1
      have p0 : 0 < p := by omega
      have hpb := hp.bd
      have hat : atI ((pf n).map prD) (0 + (i : Int)) = some (.tup [.int p, .int e]) := by rw [Int.zero_add]; exact Sn.atI_nat (by rw [List.getElem?_map, hq]; rfl)
      have hac : atI (cs.map prD) (0 + (i : Int)) = some (.tup [.int a, .int b]) := by rw [Int.zero_add]; exact Sn.atI_nat (by rw [List.getElem?_map, hc]; rfl)
      have hll : (((plL ((pf n).take i) (cs.take i)).map D.int).map W.dat).length ≤ 100 := by
        rw [List.length_map, List.length_map]; unfold plL; rw [List.length_zipWith, List.length_take, List.length_take]; omega
      rw [plL_snoc hq hc]
      refine rg_name rfl ?_
      dsimp only [List.set_cons_zero, List.set_cons_succ]
      wtm_at "go"
      refine callF1 ⟨p, e, 10, rfl, hp.bd, by omega, by omega, by omega, by decide, ?_⟩
      unfold plc
      dsimp only
      obtain ⟨m, hm⟩ : ∃ m, m = p ^ e.toNat := ⟨_, rfl⟩
      rw [← hm] at m1 m2 it ⊢
      wtm_at "nx"
      refine rs_if ?_
      wtm_at "go"
      refine callF1 ⟨[a, b], rfl, by simp, ?_⟩
      wtm_at "go"
      rcases it with ⟨rfl, h1, h2⟩ | ⟨rfl, h1, h2, h3, h4⟩
      · rw [if_pos rfl]
        refine rs_ifT (b := true) (vt_is (vt_and (by wtm_at "vt") (fun _ => by wtm_at "vt")) ?_) rfl ?_
        · simp only [decide_true, Bool.true_and]
          rw [decide_eq_true h1, decide_eq_true h2]; rfl
        refine rs_append (k := 0) (by wtm_at "ve") rfl ?_
        wtm_at "go"
        refine ⟨0, _, rfl, len_lt (by omega), ?_⟩
        refine ⟨_, _, _, rfl, ?_⟩
        rw [List.map_append, List.map_append]
        rfl
      · rw [if_neg h4]
        refine rs_ifF (b := false) (vt_is (vt_and (c := decide (0 ≤ (1 : Int)) && decide ((1 : Int) < m)) (by wtm_at "vt") (fun _ => by wtm_at "vt")) ?_) rfl ?_
        · rw [decide_eq_false h4]; rfl
        have hbb : Bd 10 b := ⟨by omega⟩
        have hc2 : CDivW b p := cdivw (by omega) hpb (by decide)
        refine rs_ifT (b := true) (vt_is (vt_and (by wtm_at "vt") (fun _ => vt_and (by wtm_at "vt") (fun _ => by wtm_at "vt"))) ?_) rfl ?_
        · rw [decide_eq_true (show b % p = 0 from Int.emod_eq_zero_of_dvd h3), decide_eq_true h1, decide_eq_true h2]; rfl
        refine rs_append (k := 0) (by wtm_at "ve") rfl ?_
        wtm_at "go"
        refine ⟨0, _, rfl, len_lt (by omega), ?_⟩
        refine ⟨_, _, _, rfl, ?_⟩
        rw [List.map_append, List.map_append]
        rfl
    · rintro o4 o5 o6 _ rfl
      rw [rng_length, List.length_map, Int.toNat_natCast, List.take_length, ← hcl, List.take_length]
      exact ⟨_, _, _, rfl, rfl⟩
  rintro o4 o5 o6 _ rfl
  dsimp only [List.set_cons_zero, List.set_cons_succ]
  refine rs_ret (re_frz ?_)
  wtm_at "go"
  exact ⟨0, l, _, rfl, rfl, hR⟩

/-! _law_meets: whether a told class is near to a pair, or to the items of another class -/
def selD (fd : D) (ps os : List (Int × Int)) (p : Int) : Nat → D
  | 0 => fd
  | k + 1 => if fd.isN = true ∧ (ps.getD k (0, 0)).1 = p then prD (os.getD k (0, 0)) else selD fd ps os p k
theorem selA {x y : Int} (ps os : List (Int × Int)) (p : Int) : ∀ k, selD (.tup [.int x, .int y]) ps os p k = .tup [.int x, .int y]
  | 0 => rfl
  | k + 1 => by
    show (if _ then _ else _) = _
    rw [if_neg (fun z => by cases z.1)]
    exact selA ps os p k
def fs__law_meets : FS := fun ws μ R _ => ∃ (cs os : List (Int × Int)) (n m : Int) (fd : D), ws = [.dat (.tup (cs.map prD)), .i n, .dat fd, .dat (.tup (os.map prD)), .i m] ∧ 1 ≤ n ∧ n ≤ 900 ∧ 1 ≤ m ∧ m ≤ 900 ∧ ItR (pf n) cs ∧ (fd.isN = true → os.length = (pf m).length) ∧
  (∀ (i : Nat) (q c : Int × Int), (pf n)[i]? = some q → cs[i]? = some c → ∃ o : Int × Int, selD fd (pf m) os q.1 (pf m).length = prD o ∧ Bd 8000 o.1 ∧ Bd 8000 o.2 ∧ q.1 ^ q.2.toNat ∣ o.1 * c.2 - o.2 * c.1) ∧ R (.b true) μ
theorem fn__law_meets (B : Base P w K mg base) : Fn P w K mg base "_law_meets" 5 ["c", "n", "f", "other", "many"] fs__law_meets := by
  have F__law_places_of := fn__law_places_of B
  have F__law_parts := fn__law_parts B
  have F__law_power := fn__law_power B
  refine fn_mk (st := s__law_meets) (gl__law_meets B) (df__law_meets B) sc__law_meets (fun ws μ R X h => (by first | exact h.1 | (obtain ⟨_, rfl, _⟩ := h; rfl) | (obtain ⟨_, _, rfl, _⟩ := h; rfl) | (obtain ⟨_, _, _, rfl, _⟩ := h; rfl) | (obtain ⟨_, _, _, _, rfl, _⟩ := h; rfl) | (obtain ⟨_, _, _, _, _, rfl, _⟩ := h; rfl) | (obtain ⟨_, _, _, _, _, _, rfl, _⟩ := h; rfl) | (obtain ⟨_, _, _, _, _, _, _, rfl, _⟩ := h; rfl) | (obtain ⟨_, _, _, _, _, _, _, _, rfl, _⟩ := h; rfl))) (fun _ _ _ _ _ _ us hl => match us, hl with | [_, _, _, _, _], _ => rfl) fun cdv A outer s H E hr => ⟨_, (pss_cons (ps_if (pt_cmpR op_isNon (pe_fn F__law_places_of hr (by decide) rfl (takes_of rfl rfl rfl rfl) (pa_cons (pv 0) (pa_cons (pv 1) pa_nil))) pe_non (nomark _)) (pss_one (ps_ret pe_bl)) pss_nil)
  (pss_cons (ps_set (i := 5) sc__law_meets.nd rfl (Or.inl rfl) (pe_ix ix_seq (pe_fn F__law_parts hr (by decide) rfl (takes_of rfl rfl rfl rfl) (pa_cons (pv 4) pa_nil)) pe_int (fun _ _ => rfl)))
  (pss_cons (ps_set (i := 6) sc__law_meets.nd rfl (Or.inl rfl) (pe_ix ix_seq (pe_fn F__law_parts hr (by decide) rfl (takes_of rfl rfl rfl rfl) (pa_cons (pv 1) pa_nil)) pe_int (fun _ _ => rfl)))
  (pss_cons (ps_for (passes_of rfl) rfl (pi_range1 rfl (fr_range B) (pa_cons (pe_callB cr_len (by rfl) (fr_len B) (by decide +kernel) (pa_cons (pv 6) pa_nil)) pa_nil)) (pg_name (i := 7) sc__law_meets.nd rfl (Or.inl rfl)) (pss_cons (ps_set (i := 8) sc__law_meets.nd rfl (Or.inl rfl) (pv 2))
  (pss_cons (ps_for (passes_of rfl) rfl (pi_range1 rfl (fr_range B) (pa_cons (pe_callB cr_len (by rfl) (fr_len B) (by decide +kernel) (pa_cons (pv 5) pa_nil)) pa_nil)) (pg_name (i := 9) sc__law_meets.nd rfl (Or.inl rfl)) (pss_one (ps_if (PW.pt (pw_and (pt_cmpR op_isNon (pv 2) pe_non (nomark _)) (pw_and1 (pt_cmpR op_eq (pe_ix ix_seq (pe_ix ix_seq (pv 5) (pv 9) (fun _ _ => rfl)) pe_int (fun _ _ => rfl)) (pe_ix ix_seq (pe_ix ix_seq (pv 6) (pv 7) (fun _ _ => rfl)) pe_int (fun _ _ => rfl)) (nomark _))))) (pss_one (ps_set (i := 8) sc__law_meets.nd rfl (Or.inl rfl) (pe_ix ix_seq (pv 3) (pv 9) (fun _ _ => rfl)))) pss_nil)))
  (pss_one (ps_if (pt_cmpR op_ne (pe_op op_mod (pe_callTy cr_int1 (by rfl) (fr_int B) (by decide +kernel) (pa_cons (pe_op op_sub (pe_op op_mulW (pe_ix ix_seq (pv 8) pe_int (fun _ _ => rfl)) (pe_ix ix_seq (pe_ix ix_seq (pv 0) (pv 7) (fun _ _ => rfl)) pe_int (fun _ _ => rfl))) (pe_op op_mulW (pe_ix ix_seq (pv 8) pe_int (fun _ _ => rfl)) (pe_ix ix_seq (pe_ix ix_seq (pv 0) (pv 7) (fun _ _ => rfl)) pe_int (fun _ _ => rfl)))) pa_nil)) (pe_fn F__law_power hr (by decide) rfl (takes_of rfl rfl rfl rfl) (pa_cons (pe_ix ix_seq (pe_ix ix_seq (pv 6) (pv 7) (fun _ _ => rfl)) pe_int (fun _ _ => rfl)) (pa_cons (pe_ix ix_seq (pe_ix ix_seq (pv 6) (pv 7) (fun _ _ => rfl)) pe_int (fun _ _ => rfl)) pa_nil)))) pe_int (nomark _)) (pss_one (ps_ret pe_bl)) pss_nil)))))
  (pss_one (ps_ret pe_bl)))))), fun ws μ R X h => ?_⟩
  obtain ⟨cs, os, n, m, fd, rfl, n1, n2, m1, m2, hI, hol, hn, hR⟩ := h
  change RS _ _ [some _, some _, some _, some _, some _, none, none, none, none, none] _ _
  (try dsimp only [cxOf])
  have ok := pf_ok n1 n2
  have hln := pf_len n1 n2
  have hlm := pf_len m1 m2
  have hcl := hI.1
  wtm_at "nx"
  refine rs_if ?_
  wtm_at "go"
  refine callF1 ⟨cs, n, rfl, n1, n2, hI, ?_⟩
  wtm_at "go"
  refine callF1 ⟨m, rfl, m1, Bd.up (n := 10) ⟨by omega⟩ (by decide), ?_⟩
  rw [lpD_eq m1 m2]
  wtm_at "go"
  refine callF1 ⟨n, rfl, n1, Bd.up (n := 10) ⟨by omega⟩ (by decide), ?_⟩
  rw [lpD_eq n1 n2]
  wtm_at "nx"
  refine rs_slot3 7 8 9 (fun _ _ _ μ' => μ = μ') ?_ ?_
  · refine rs_forI3 7 8 9 (fun i _ _ _ μ' => μ = μ') (ri_rng1 ?_)
    wtm_at "go"
    refine ⟨_, rfl, by rw [List.length_map]; omega, by omega, ⟨_, _, _, rfl, rfl, rfl, rfl⟩, ?_, ?_⟩
    · rintro i d o7 o8 o9 _ hd rfl
      have hi := (List.getElem?_eq_some_iff.mp hd).1
      rw [rng_length, List.length_map, Int.toNat_natCast] at hi
      rw [rng_at (by rw [List.length_map, Int.toNat_natCast]; exact hi)] at hd
      cases hd
      obtain ⟨⟨p, e⟩, hq⟩ : ∃ q, (pf n)[i]? = some q := ⟨_, List.getElem?_eq_getElem hi⟩
      obtain ⟨⟨a, b⟩, hc⟩ : ∃ c, cs[i]? = some c := ⟨_, List.getElem?_eq_getElem (by omega)⟩
      have it := hI.2 i _ _ hq hc
      unfold Itm at it
      obtain ⟨⟨u, v⟩, hsel, ub, vb, hdn⟩ := hn i _ _ hq hc
      obtain ⟨hp, he1, he2, hdv⟩ := ok.m _ (List.mem_of_getElem? hq)
      dsimp only at hp he1 he2 hdv it hsel ub vb hdn
      obtain ⟨k1, k2, _, _⟩ := pow_le900 n1 n2 hp.2.1 hdv
      have hat : atI ((pf n).map prD) (0 + (i : Int)) = some (.tup [.int p, .int e]) := by rw [Int.zero_add]; exact Sn.atI_nat (by rw [List.getElem?_map, hq]; rfl)
      have hac : atI (cs.map prD) (0 + (i : Int)) = some (.tup [.int a, .int b]) := by rw [Int.zero_add]; exact Sn.atI_nat (by rw [List.getElem?_map, hc]; rfl)
      refine rg_name rfl ?_
      dsimp only [List.set_cons_zero, List.set_cons_succ]
      wtm_at "go"
      refine rs_slot2 8 9 (fun o _ μ' => o = some (.dat (prD (u, v))) ∧ μ = μ') ?_ ?_
      · refine rs_forI2 8 9 (fun k o _ μ' => o = some (.dat (selD fd (pf m) os p k)) ∧ μ = μ') (ri_rng1 ?_)
        wtm_at "go"
        refine ⟨_, rfl, by rw [List.length_map]; omega, by omega, ⟨_, _, rfl, rfl, rfl, rfl⟩, ?_, ?_⟩
        · rintro k d o8 o9 _ hd ⟨rfl, rfl⟩
          have hk := (List.getElem?_eq_some_iff.mp hd).1
          rw [rng_length, List.length_map, Int.toNat_natCast] at hk
          rw [rng_at (by rw [List.length_map, Int.toNat_natCast]; exact hk)] at hd
          cases hd
          obtain ⟨⟨p2, e2⟩, hq2⟩ : ∃ q, (pf m)[k]? = some q := ⟨_, List.getElem?_eq_getElem hk⟩
          have hgp : (pf m).getD k (0, 0) = (p2, e2) := by rw [List.getD_eq_getElem?_getD, hq2]; rfl
          have hat2 : atI ((pf m).map prD) (0 + (k : Int)) = some (.tup [.int p2, .int e2]) := by rw [Int.zero_add]; exact Sn.atI_nat (by rw [List.getElem?_map, hq2]; rfl)
          refine rg_name rfl ?_
          dsimp only [List.set_cons_zero, List.set_cons_succ]
          refine rs_ifv (vt_and (b := fd.isN) (c := decide (p2 = p)) (vt_test (ve_op (by wtm_at "ve") (by wtm_at "ve") vo_isN)) (fun _ => by wtm_at "vt")) ?_ ?_
          · intro z
            simp only [Bool.and_eq_true, decide_eq_true_eq] at z
            obtain ⟨o, ho⟩ : ∃ o, os[k]? = some o := ⟨_, List.getElem?_eq_getElem (by rw [hol z.1]; exact hk)⟩
            have hao : atI (os.map prD) (0 + (k : Int)) = some (prD o) := by rw [Int.zero_add]; exact Sn.atI_nat (by rw [List.getElem?_map, ho]; rfl)
            wtm_at "go"
            refine ⟨_, _, rfl, ?_, rfl⟩
            show _ = some (W.dat (if _ then _ else _))
            rw [if_pos ⟨z.1, by rw [hgp]; exact z.2⟩, List.getD_eq_getElem?_getD, ho]; rfl
          · intro z
            wtm_at "go"
            refine ⟨_, _, rfl, ?_, rfl⟩
            show _ = some (W.dat (if _ then _ else _))
            rw [if_neg]
            rintro ⟨y1, y2⟩
            rw [hgp] at y2
            rw [y1, Bool.true_and, decide_eq_false_iff_not] at z
            exact z y2
        · rintro o8 o9 _ ⟨rfl, rfl⟩
          rw [rng_length, List.length_map, Int.toNat_natCast, hsel]
          exact ⟨_, _, rfl, rfl, rfl⟩
      rintro o8 o9 _ ⟨rfl, rfl⟩
      rw [show prD (u, v) = D.tup [.int u, .int v] from rfl]
      dsimp only [List.set_cons_zero, List.set_cons_succ]
      have ab9 : Bd 10 a ∧ Bd 10 b := by
        rcases it with ⟨h1, h2, h3⟩ | ⟨h1, h2, h3, _⟩
        · exact ⟨⟨by omega⟩, ⟨by omega⟩⟩
        · exact ⟨⟨by omega⟩, ⟨by omega⟩⟩
      have ab1 := ab9.1
      have ab2 := ab9.2
      refine rs_if ?_
      wtm_at "go"
      refine callF1 ⟨p, e, 10, rfl, hp.bd, by omega, by omega, by omega, by decide, ?_⟩
      have k0 : 0 < p ^ e.toNat := by omega
      wtm_at "go"
      refine br_f (by rw [Bool.not_eq_false', decide_eq_true_eq]; exact Int.emod_eq_zero_of_dvd hdn) ?_
      wtm_at "go"
      exact ⟨_, _, _, rfl, rfl⟩
    · rintro o7 o8 o9 _ rfl
      exact ⟨_, _, _, rfl, rfl⟩
  rintro o7 o8 o9 _ rfl
  dsimp only [List.set_cons_zero, List.set_cons_succ]
  wtm_at "go"
  exact hR

/-! _law_fractions_right: the classes of drawn fractions -/
theorem mapP_inj : ∀ {as bs : List (Int × Int)}, as.map prD = bs.map prD → as = bs
  | [], [], _ => rfl
  | [], _ :: _, h => by cases h
  | _ :: _, [], h => by cases h
  | a :: as, b :: bs, h => by
    rw [List.map_cons, List.map_cons] at h
    injection h with h1 h2
    rw [prD_inj h1, mapP_inj h2]
theorem Lt_gcd {x y : Int} (h : Lt x y) : Int.gcd x y = 1 := h.g
theorem okC : ∀ cs : List (Int × Int), (D.tup (cs.map prD)).ok = true := fun cs => by rw [D.ok]; exact okP cs
theorem fn_same_told {E : En} {ε : Ep} {μ : Mu} {Ψ : W → Mu → Prop} {cs ds : List (Int × Int)} (e : cs = ds) (hl : ds.length ≤ 300000) (q : Ψ (.b true) μ) : CallF E fs__law_same [.dat (.tup [.str "told", .tup (cs.map prD)]), .dat (.tup [.str "told", .tup (ds.map prD)])] ε μ Ψ := by
  have e1 : (D.str "told").sz = 1 := by simp [D.sz]
  have e2 : (D.str "told").ok = true := rfl
  exact sameT (by rw [e]) (by rw [D.ok, D.okL, D.okL, D.ok, D.okL, okP, e2]; rfl) (by rw [D.sz, D.szL, D.szL, D.sz, D.szL, szP, e1]; omega) q
def fs__law_fractions_right : FS := fun ws μ R _ => ∃ (st : Addr) (s : List W) (n : Int), ws = [.at st, .i n] ∧ μ = [(st, .lst s)] ∧ Sto s ∧ 1 ≤ n ∧ n ≤ 900 ∧ ∀ s', Sto s' → R (.b true) [(st, .lst s')]
def toldL (cc : List (List (Int × Int))) : List D := cc.map rowD
theorem fn__law_fractions_right (B : Base P w K mg base) : Fn P w K mg base "_law_fractions_right" 8 ["store", "n"] fs__law_fractions_right := by
  have F__law_any := fn__law_any B
  have F__law_same := fn__law_same B
  have F__law_take := fn__law_take B
  have F__law_lowest := fn__law_lowest B
  have F__law_call := fn__law_call B
  have F__law_meets := fn__law_meets B
  refine fn_mk (st := s__law_fractions_right) (gl__law_fractions_right B) (df__law_fractions_right B) sc__law_fractions_right (fun ws μ R X h => (by first | exact h.1 | (obtain ⟨_, rfl, _⟩ := h; rfl) | (obtain ⟨_, _, rfl, _⟩ := h; rfl) | (obtain ⟨_, _, _, rfl, _⟩ := h; rfl) | (obtain ⟨_, _, _, _, rfl, _⟩ := h; rfl) | (obtain ⟨_, _, _, _, _, rfl, _⟩ := h; rfl) | (obtain ⟨_, _, _, _, _, _, rfl, _⟩ := h; rfl) | (obtain ⟨_, _, _, _, _, _, _, rfl, _⟩ := h; rfl) | (obtain ⟨_, _, _, _, _, _, _, _, rfl, _⟩ := h; rfl))) (fun _ _ _ _ _ _ us hl => match us, hl with | [_, _], _ => rfl) fun cdv A outer s H E hr => ⟨_, (pss_cons (ps_set (i := 2) sc__law_fractions_right.nd rfl (Or.inl rfl) (pe_fn F__law_any hr (by decide) rfl (takes_of rfl rfl rfl rfl) (pa_cons (pv 0) pa_nil)))
  (pss_cons (ps_if (pt_cmpR op_eq (pe_fn F__law_take hr (by decide) rfl (takes_of rfl rfl rfl rfl) (pa_cons (pv 0) (pa_cons pe_int pa_nil))) pe_int (nomark _)) (pss_one (ps_set (i := 2) sc__law_fractions_right.nd rfl (Or.inl rfl) (pe_tup (pa_cons pe_int (pa_cons pe_int pa_nil))))) pss_nil)
  (pss_cons (ps_set (i := 3) sc__law_fractions_right.nd rfl (Or.inl rfl) (pe_fn F__law_any hr (by decide) rfl (takes_of rfl rfl rfl rfl) (pa_cons (pv 0) pa_nil)))
  (pss_cons (ps_if (pt_cmpR op_gt (pe_fn F__law_take hr (by decide) rfl (takes_of rfl rfl rfl rfl) (pa_cons (pv 0) (pa_cons pe_int pa_nil))) pe_int (nomark _)) (pss_one (ps_set (i := 3) sc__law_fractions_right.nd rfl (Or.inl rfl) (pe_fn F__law_lowest hr (by decide) rfl (takes_of rfl rfl rfl rfl) (pa_cons (pe_op op_add (pe_ix ix_seq (pv 2) pe_int (fun _ _ => rfl)) (pe_op op_mulW (pv 1) (pe_fn F__law_take hr (by decide) rfl (takes_of rfl rfl rfl rfl) (pa_cons (pv 0) (pa_cons pe_int pa_nil))))) (pa_cons (pe_op op_add (pe_ix ix_seq (pv 2) pe_int (fun _ _ => rfl)) (pe_op op_mulW (pv 1) (pe_fn F__law_take hr (by decide) rfl (takes_of rfl rfl rfl rfl) (pa_cons (pv 0) (pa_cons pe_int pa_nil))))) pa_nil))))) pss_nil)
  (pss_cons (ps_set (i := 4) sc__law_fractions_right.nd rfl (Or.inl rfl) (pe_lst (pa_cons (pv 2) (pa_cons (pv 3) (pa_cons (pe_fn F__law_any hr (by decide) rfl (takes_of rfl rfl rfl rfl) (pa_cons (pv 0) pa_nil)) pa_nil)))))
  (pss_cons (ps_set (i := 5) sc__law_fractions_right.nd rfl (Or.inl rfl) (pe_lst pa_nil))
  (pss_cons (ps_for (passes_of rfl) rfl (pi_list (pe_callTy cr_listOf (by rfl) (fr_list B) (by decide +kernel) (pa_cons (pv 4) pa_nil))) (pg_name (i := 6) sc__law_fractions_right.nd rfl (Or.inl rfl)) (pss_cons (ps_set (i := 7) sc__law_fractions_right.nd rfl (Or.inl rfl) (pe_fn F__law_call hr (by decide) rfl (takes_of rfl rfl rfl rfl) (pa_cons pe_str (pa_cons (pe_lst (pa_cons (pv 6) (pa_cons (pv 1) pa_nil))) pa_nil))))
  (pss_cons (ps_if (PW.pt (pw_or (pt_cmpR op_ne (pe_callB cr_len (by rfl) (fr_len B) (by decide +kernel) (pa_cons (pv 7) pa_nil)) pe_int (nomark _)) (pw_or1 (pt_not (pt_val (pe_fn F__law_meets hr (by decide) rfl (takes_of rfl rfl rfl rfl) (pa_cons (pe_ix ix_seq (pv 7) pe_int (fun _ _ => rfl)) (pa_cons (pv 1) (pa_cons (pv 6) (pa_cons (pe_tup pa_nil) (pa_cons pe_int pa_nil))))))))))) (pss_one (ps_ret pe_bl)) pss_nil)
  (pss_one (ps_expr (pe_bm PySem.F.plainAttrs_list PySem.F.slot_list_append PySem.F.type_list_append mt_append (pv 5) (pa_cons (pe_ix ix_seq (pv 7) pe_int (fun _ _ => rfl)) pa_nil)))))))
  (pss_cons (ps_for (passes_of rfl) rfl (pi_range2 rfl (fr_range B) (pa_cons pe_int (pa_cons pe_int pa_nil))) (pg_name (i := 8) sc__law_fractions_right.nd rfl (Or.inl rfl)) (pss_cons (ps_set (i := 9) sc__law_fractions_right.nd rfl (Or.inl rfl) (pe_cmpR op_eq (pe_op op_mod (pe_callTy cr_int1 (by rfl) (fr_int B) (by decide +kernel) (pa_cons (pe_op op_sub (pe_op op_mulW (pe_ix ix_seq (pv 2) pe_int (fun _ _ => rfl)) (pe_ix ix_seq (pe_ix ix_seq (pv 4) (pv 8) (fun _ _ => rfl)) pe_int (fun _ _ => rfl))) (pe_op op_mulW (pe_ix ix_seq (pv 2) pe_int (fun _ _ => rfl)) (pe_ix ix_seq (pe_ix ix_seq (pv 4) (pv 8) (fun _ _ => rfl)) pe_int (fun _ _ => rfl)))) pa_nil)) (pv 1)) pe_int (nomark _)))
  (pss_one (ps_if (pt_cmpR op_ne (pe_cmpR (op_eqD hr.units) (pe_ix ix_seq (pv 5) pe_int (fun _ _ => rfl)) (pe_ix ix_seq (pv 5) (pv 8) (fun _ _ => rfl)) (nomark _)) (pv 9) (nomark _)) (pss_one (ps_ret pe_bl)) pss_nil))))
  (pss_one (ps_ret (pe_fn F__law_same hr (by decide) rfl (takes_of rfl rfl rfl rfl) (pa_cons (pe_fn F__law_call hr (by decide) rfl (takes_of rfl rfl rfl rfl) (pa_cons pe_str (pa_cons (pe_lst (pa_cons (pv 2) (pa_cons (pv 1) pa_nil))) pa_nil))) (pa_cons (pe_tup (pa_cons pe_str (pa_cons (pe_ix ix_seq (pv 5) pe_int (fun _ _ => rfl)) pa_nil))) pa_nil))))))))))))), fun ws μ R X h => ?_⟩
  obtain ⟨st, s, n, rfl, rfl, hS, n1, n2, hR⟩ := h
  change RS _ _ [some _, some _, none, none, none, none, none, none, none, none] _ _
  (try dsimp only [cxOf])
  have hln := pf_len n1 n2
  have hnb : Bd 10 n := ⟨by omega⟩
  wtm_at "go"
  refine callF1 ⟨st, s, rfl, rfl, hS, fun x y s1 hS1 L hx hy => ?_⟩
  wtm_at "nx"
  refine rs_slot 2 (fun o μ' => ∃ (x y : Int) (s' : List W), [(st, HC.lst s')] = μ' ∧ Sto s' ∧ o = some (.dat (.tup [.int x, .int y])) ∧ Lt x y ∧ Bd 800 x ∧ Bd 800 y) ?_ ?_
  · refine rs_if ?_
    wtm_at "go"
    refine take0 4 (by decide +kernel) hS1 fun r s2 hS2 r0 r1 _ => ?_
    wtm_at "go"
    refine ⟨fun _ => ?_, fun _ => ?_⟩
    · wtm_at "go"
      exact ⟨_, rfl, 1, 0, s2, rfl, hS2, rfl, isF_iff.mp (by decide), Bd.one (by decide), Bd.zero⟩
    · wtm_at "go"
      exact ⟨_, rfl, x, y, s2, rfl, hS2, rfl, L, hx, hy⟩
  clear hS hS1 L hx hy
  rintro _ _ ⟨x, y, s1, rfl, hS1, rfl, L, hx, hy⟩
  dsimp only [List.set_cons_zero, List.set_cons_succ]
  wtm_at "go"
  refine callF1 ⟨st, s1, rfl, rfl, hS1, fun u v s2 hS2 L2 hu hv => ?_⟩
  wtm_at "nx"
  refine rs_slot 3 (fun o μ' => ∃ (u v : Int) (s' : List W), [(st, HC.lst s')] = μ' ∧ Sto s' ∧ o = some (.dat (.tup [.int u, .int v])) ∧ Lt u v ∧ Bd 830 u ∧ Bd 830 v) ?_ ?_
  · refine rs_if ?_
    wtm_at "go"
    refine take0 3 (by decide +kernel) hS2 fun r s3 hS3 r0 r1 _ => ?_
    wtm_at "go"
    refine ⟨fun _ => ?_, fun _ => ?_⟩
    · wtm_at "go"
      refine take0 3 (by decide +kernel) hS3 fun a s4 hS4 a0 a1 ab => ?_
      have hc1 : CMulW n a := cmulw hnb ab (by decide)
      wtm_at "go"
      refine take0 3 (by decide +kernel) hS4 fun b s5 hS5 b0 b1 bb => ?_
      have hc2 : CMulW n b := cmulw hnb bb (by decide)
      have na := Int.mul_nonneg (show 0 ≤ n by omega) a0
      have nb := Int.mul_nonneg (show 0 ≤ n by omega) b0
      have e1 : Bd 820 (x + n * a) := (hx.add (hnb.mul ab)).up (by decide)
      have e2 : Bd 820 (y + n * b) := (hy.add (hnb.mul bb)).up (by decide)
      have nz : ¬ (x + n * a = 0 ∧ y + n * b = 0) := by
        rintro ⟨z1, z2⟩
        have := L.q0; omega
      obtain ⟨p, q, e, hl, hp, hq⟩ := red_bd nz e1 e2
      wtm_at "go"
      refine callF0 ⟨_, _, rfl, e1.up (by decide), e2.up (by decide), ?_⟩
      rw [e]
      wtm_at "go"
      exact ⟨_, rfl, p, q, s5, rfl, hS5, rfl, hl, hp.up (by decide), hq.up (by decide)⟩
    · wtm_at "go"
      exact ⟨_, rfl, u, v, s3, rfl, hS3, rfl, L2, hu.up (by decide), hv.up (by decide)⟩
  clear hS1 hS2 L2 hu hv
  rintro _ _ ⟨u, v, s2, rfl, hS2, rfl, L2, hu, hv⟩
  dsimp only [List.set_cons_zero, List.set_cons_succ]
  wtm_at "go"
  refine re_lst ?_
  wtm_at "go"
  refine callF1 ⟨st, s2, rfl, rfl, hS2, fun a b s3 hS3 L3 ha hb => ?_⟩
  wtm_at "go"
  refine dl_f rfl (by wtm_at "sz") ?_
  wtm_at "go"
  refine re_lst ?_
  wtm_at "go"
  refine dl_o (by wtm_at "sz") fun l => ?_
  obtain ⟨fs, hfs⟩ : ∃ fs : List (Int × Int), fs = [(x, y), (u, v), (a, b)] := ⟨_, rfl⟩
  have hds : [D.tup [.int x, .int y], .tup [.int u, .int v], .tup [.int a, .int b]] = fs.map prD := by rw [hfs]; rfl
  have hfl : fs.length = 3 := by rw [hfs]; rfl
  have hfm : ∀ f ∈ fs, Lt f.1 f.2 ∧ Bd 830 f.1 ∧ Bd 830 f.2 := by
    rw [hfs]
    exact AllOf.mem ⟨⟨L, hx.up (by decide), hy.up (by decide)⟩, ⟨L2, hu, hv⟩, ⟨L3, ha.up (by decide), hb.up (by decide)⟩, trivial⟩
  rw [hds]
  wtm_at "nx"
  refine rs_slot2 6 7 (fun _ _ μ' => ∃ cc : List (List (Int × Int)), [(l, HC.lst ((toldL cc).map .dat)), (st, HC.lst s3)] = μ' ∧ cc.length = 3 ∧ ∀ (k : Nat) (f : Int × Int) (c : List (Int × Int)), fs[k]? = some f → cc[k]? = some c → ClsM f.1 f.2 n c) ?_ ?_
  · refine rs_forI2 6 7 (fun i _ _ μ' => ∃ cc : List (List (Int × Int)), [(l, HC.lst ((toldL cc).map .dat)), (st, HC.lst s3)] = μ' ∧ cc.length = i ∧ ∀ (k : Nat) (f : Int × Int) (c : List (Int × Int)), fs[k]? = some f → cc[k]? = some c → ClsM f.1 f.2 n c) (ri_list ?_)
    wtm_at "go"
    refine rc_listF rfl ⟨_, rfl, ⟨_, _, rfl, rfl, [], rfl, rfl, fun k f c _ h => by simp at h⟩, ?_, ?_⟩
    · rintro i d o6 o7 _ hd ⟨cc, rfl, hcl, hcc⟩
      rw [List.getElem?_map] at hd
      obtain ⟨⟨f, g⟩, hq, rfl⟩ := Option.map_eq_some_iff.mp hd
      have hil := (List.getElem?_eq_some_iff.mp hq).1
      obtain ⟨Lf, hf, hg⟩ := hfm _ (List.mem_of_getElem? hq)
      dsimp only at Lf hf hg
      rw [show prD (f, g) = D.tup [.int f, .int g] from rfl]
      refine rg_name rfl ?_
      dsimp only [List.set_cons_zero, List.set_cons_succ]
      wtm_at "go"
      wtm_at "fl"
      refine callF1 ⟨_, _, rfl, .inl ⟨f, g, n, rfl, rfl, fun z => by omega, fun _ _ => ⟨Lt_gcd Lf, hf.up (by decide), hg.up (by decide), fun cs hcs => ?_⟩⟩⟩
      wtm_at "nx"
      refine rs_if ?_
      wtm_at "go"
      have hir := clsM_itR n1 n2 hcs
      refine callF1 ⟨cs, [], n, 1, .tup [.int f, .int g], rfl, n1, n2, by decide, by decide, hir, fun z => (by cases z), fun k q c h1 h2 => ⟨(f, g), selA _ _ _ _, hf.up (by decide), hg.up (by decide), (hcs.2 k q c h1 h2).near⟩, ?_⟩
      wtm_at "go"
      refine rs_append (k := 0) (by wtm_at "ve") rfl ?_
      wtm_at "go"
      refine ⟨0, _, rfl, len_lt (by rw [List.length_map]; unfold toldL; rw [List.length_map]; omega), ?_⟩
      refine ⟨_, _, rfl, cc ++ [cs], by unfold toldL; rw [List.map_append, List.map_append]; rfl, by rw [List.length_append, hcl]; rfl, fun k f' c h1 h2 => ?_⟩
      rcases Nat.lt_or_ge k cc.length with z | z
      · rw [List.getElem?_append_left z] at h2
        exact hcc k f' c h1 h2
      · have e : k = i := by
          have := (List.getElem?_eq_some_iff.mp h2).1
          rw [List.length_append, List.length_singleton] at this
          omega
        subst e
        rw [List.getElem?_append_right z, show k - cc.length = 0 by omega] at h2
        cases h2
        rw [hq] at h1
        cases h1
        exact hcs
    · rintro o6 o7 _ ⟨cc, rfl, hcl, hcc⟩
      rw [List.length_map, hfl] at hcl
      exact ⟨_, _, rfl, cc, rfl, hcl, hcc⟩
  rintro o6 o7 _ ⟨cc, rfl, hcl, hcc⟩
  dsimp only [List.set_cons_zero, List.set_cons_succ]
  obtain ⟨c0, hc0⟩ : ∃ c, cc[0]? = some c := ⟨_, List.getElem?_eq_getElem (by omega)⟩
  have f0 : fs[0]? = some (x, y) := by rw [hfs]; rfl
  have h0 := hcc 0 _ _ f0 hc0
  dsimp only at h0
  have hlen0 := h0.1
  have hmu : ([(l, HC.lst ((toldL cc).map .dat)), (st, HC.lst s3)] : Mu)[0]? = some (l, HC.lst ((toldL cc).map .dat)) := rfl
  have ix : ∀ (k : Nat) (c : List (Int × Int)), cc[k]? = some c → atI ((toldL cc).map W.dat) (k : Int) = some (.dat (rowD c)) := fun k c h => Sn.atI_nat (by unfold toldL; rw [List.map_map, List.getElem?_map, h]; rfl)
  have i0 : atI ((toldL cc).map W.dat) 0 = some (.dat (rowD c0)) := ix 0 c0 hc0
  wtm_at "nx"
  refine rs_slot2 8 9 (fun _ _ μ' => [(l, HC.lst ((toldL cc).map .dat)), (st, HC.lst s3)] = μ') ?_ ?_
  · refine rs_forI2 8 9 (fun i _ _ μ' => [(l, HC.lst ((toldL cc).map .dat)), (st, HC.lst s3)] = μ') (ri_rng2 (ra_v (by wtm_at "va") ⟨1, 3, rfl, by decide, ⟨_, _, rfl, rfl, rfl⟩, ?_, fun o p _ e => ⟨_, _, rfl, e⟩⟩))
    rintro i d o8 o9 _ hd rfl
    have hi := (List.getElem?_eq_some_iff.mp hd).1
    rw [rng_length] at hi
    rw [rng_at hi] at hd
    cases hd
    have hi : i < 2 := hi
    obtain ⟨⟨f, g⟩, hf⟩ : ∃ f, fs[i + 1]? = some f := ⟨_, List.getElem?_eq_getElem (by omega)⟩
    obtain ⟨c1, hc1⟩ : ∃ c, cc[i + 1]? = some c := ⟨_, List.getElem?_eq_getElem (by omega)⟩
    obtain ⟨Lf, fb, gb⟩ := hfm _ (List.mem_of_getElem? hf)
    have h1 := hcc (i + 1) _ _ hf hc1
    dsimp only at h1 Lf fb gb
    have hlen1 := h1.1
    have hat : atI (fs.map prD) (1 + (i : Int)) = some (.tup [.int f, .int g]) := by rw [show (1 : Int) + (i : Int) = ((i + 1 : Nat) : Int) by omega]; exact Sn.atI_nat (by rw [List.getElem?_map, hf]; rfl)
    have i1 := ix (i + 1) c1 hc1
    rw [show ((i + 1 : Nat) : Int) = 1 + (i : Int) by omega] at i1
    have n0 : 0 < n := by omega
    have hcm1 : CMulW x g := cmulw hx gb (by decide)
    have hcm2 : CMulW y f := cmulw hy fb (by decide)
    refine rg_name rfl ?_
    dsimp only [List.set_cons_zero, List.set_cons_succ]
    wtm_at "go"
    have e := clsM_near n1 n2 (Lt_gcd L) (Lt_gcd Lf) h0 h1
    have ee : decide (c0 = c1) = decide ((x * g - y * f) % n = 0) := by rw [decide_eq_decide, e]; exact ⟨Int.emod_eq_zero_of_dvd, Int.dvd_of_emod_eq_zero⟩
    refine ro_v (vo_ixA hmu i0) ?_
    wtm_at "go"
    refine ro_v (vo_ixA hmu i1) ?_
    wtm_at "go"
    refine ro_v (vo_eqP (c := decide (c0 = c1)) 3 ?_ ?_ ?_) ?_
    · unfold rowD; rw [D.pl]; exact plP c0 1
    · unfold rowD; rw [D.pl]; exact plP c1 1
    · rw [decide_eq_true_eq]
      constructor
      · rintro rfl; rfl
      · intro z
        unfold rowD at z
        injection z with z
        exact mapP_inj z
    rw [ee]
    wtm_at "go"
    refine br_f (by rw [decide_eq_true rfl]; rfl) ?_
    wtm_at "go"
    exact ⟨_, _, rfl, rfl⟩
  rintro o8 o9 _ rfl
  dsimp only [List.set_cons_zero, List.set_cons_succ]
  refine rs_ret (re_sub ?_)
  wtm_at "go"
  wtm_at "fl"
  refine callF1 ⟨_, _, rfl, .inl ⟨x, y, n, rfl, rfl, fun z => by omega, fun _ _ => ⟨Lt_gcd L, hx.up (by decide), hy.up (by decide), fun cs hcs => ?_⟩⟩⟩
  have ec := clsM_uniq n1 n2 (Lt_gcd L) hcs h0
  wtm_at "go"
  refine ro_v (vo_ixA hmu i0) ?_
  wtm_at "go"
  refine fn_same_told ec (by omega) ?_
  exact ⟨_, .cons _ (.refl _), hR s3 hS3⟩

/-! _law_some_class: some class, item by item -/
def fs__law_some_class : FS := fun ws μ R _ => ∃ (st : Addr) (s : List W) (n : Int), ws = [.at st, .i n] ∧ μ = [(st, .lst s)] ∧ Sto s ∧ 1 ≤ n ∧ n ≤ 900 ∧ ∀ (cs : List (Int × Int)) s', Sto s' → ItR (pf n) cs → R (.dat (.tup (cs.map prD))) [(st, .lst s')]
theorem itR_snoc {ps cs : List (Int × Int)} {i : Nat} {q c : Int × Int} (h : ItR (ps.take i) cs) (hq : ps[i]? = some q) (hc : Itm q.1 q.2.toNat c) : ItR (ps.take (i + 1)) (cs ++ [c]) := by
  have hil := (List.getElem?_eq_some_iff.mp hq).1
  have hl := h.1
  rw [List.length_take] at hl
  rw [take_snoc hq]
  refine ⟨by rw [List.length_append, List.length_append, h.1]; rfl, fun k a b h1 h2 => ?_⟩
  rcases Nat.lt_or_ge k i with z | z
  · rw [List.getElem?_append_left (by rw [List.length_take]; omega)] at h1
    rw [List.getElem?_append_left (by omega)] at h2
    exact h.2 k a b h1 h2
  · have e : k = i := by
      have := (List.getElem?_eq_some_iff.mp h2).1
      rw [List.length_append, List.length_singleton] at this
      omega
    subst e
    rw [List.getElem?_append_right (by rw [List.length_take]; omega), List.length_take, show k - min k ps.length = 0 by omega] at h1
    rw [List.getElem?_append_right (by omega), show k - cs.length = 0 by omega] at h2
    cases h1; cases h2
    exact hc
theorem fn__law_some_class (B : Base P w K mg base) : Fn P w K mg base "_law_some_class" 5 ["store", "n"] fs__law_some_class := by
  have F__law_parts := fn__law_parts B
  have F__law_power := fn__law_power B
  have F__law_take := fn__law_take B
  refine fn_mk (st := s__law_some_class) (gl__law_some_class B) (df__law_some_class B) sc__law_some_class (fun ws μ R X h => (by first | exact h.1 | (obtain ⟨_, rfl, _⟩ := h; rfl) | (obtain ⟨_, _, rfl, _⟩ := h; rfl) | (obtain ⟨_, _, _, rfl, _⟩ := h; rfl) | (obtain ⟨_, _, _, _, rfl, _⟩ := h; rfl) | (obtain ⟨_, _, _, _, _, rfl, _⟩ := h; rfl) | (obtain ⟨_, _, _, _, _, _, rfl, _⟩ := h; rfl) | (obtain ⟨_, _, _, _, _, _, _, rfl, _⟩ := h; rfl) | (obtain ⟨_, _, _, _, _, _, _, _, rfl, _⟩ := h; rfl))) (fun _ _ _ _ _ _ us hl => match us, hl with | [_, _], _ => rfl) fun cdv A outer s H E hr => ⟨_, (pss_cons (ps_set (i := 2) sc__law_some_class.nd rfl (Or.inl rfl) (pe_lst pa_nil))
  (pss_cons (ps_for (passes_of rfl) rfl (pi_list (pe_ix ix_seq (pe_fn F__law_parts hr (by decide) rfl (takes_of rfl rfl rfl rfl) (pa_cons (pv 1) pa_nil)) pe_int (fun _ _ => rfl))) (pg_name (i := 3) sc__law_some_class.nd rfl (Or.inl rfl)) (pss_cons (ps_set (i := 4) sc__law_some_class.nd rfl (Or.inl rfl) (pe_fn F__law_power hr (by decide) rfl (takes_of rfl rfl rfl rfl) (pa_cons (pe_ix ix_seq (pv 3) pe_int (fun _ _ => rfl)) (pa_cons (pe_ix ix_seq (pv 3) pe_int (fun _ _ => rfl)) pa_nil))))
  (pss_cons (ps_set (i := 5) sc__law_some_class.nd rfl (Or.inl rfl) (pe_fn F__law_take hr (by decide) rfl (takes_of rfl rfl rfl rfl) (pa_cons (pv 0) (pa_cons (pe_op op_add (pv 4) (pe_op op_fdivW (pv 4) (pe_ix ix_seq (pv 3) pe_int (fun _ _ => rfl)))) pa_nil))))
  (pss_one (ps_if (pt_cmpR op_lt (pv 5) (pv 4) (nomark _)) (pss_one (ps_expr (pe_bm PySem.F.plainAttrs_list PySem.F.slot_list_append PySem.F.type_list_append mt_append (pv 2) (pa_cons (pe_tup (pa_cons (pv 5) (pa_cons pe_int pa_nil))) pa_nil)))) (pss_one (ps_expr (pe_bm PySem.F.plainAttrs_list PySem.F.slot_list_append PySem.F.type_list_append mt_append (pv 2) (pa_cons (pe_tup (pa_cons pe_int (pa_cons (pe_op op_mulW (pe_op op_sub (pv 5) (pv 4)) (pe_ix ix_seq (pv 3) pe_int (fun _ _ => rfl))) pa_nil))) pa_nil)))))))))
  (pss_one (ps_ret (pe_callTy cr_tupleOf (by rfl) (fr_tuple B) (by decide +kernel) (pa_cons (pv 2) pa_nil)))))), fun ws μ R X h => ?_⟩
  obtain ⟨st, s, n, rfl, rfl, hS, n1, n2, hR⟩ := h
  change RS _ _ [some _, some _, none, none, none, none] _ _
  (try dsimp only [cxOf])
  have ok := pf_ok n1 n2
  have hln := pf_len n1 n2
  wtm_at "go"
  refine re_lst ?_
  wtm_at "go"
  refine dl_o (by wtm_at "sz") fun l => ?_
  wtm_at "nx"
  refine rs_slot3 3 4 5 (fun _ _ _ μ' => ∃ cs s', [(l, HC.lst ((cs.map prD).map .dat)), (st, HC.lst s')] = μ' ∧ Sto s' ∧ ItR (pf n) cs) ?_ ?_
  · refine rs_forI3 3 4 5 (fun i _ _ _ μ' => ∃ cs s', [(l, HC.lst ((cs.map prD).map .dat)), (st, HC.lst s')] = μ' ∧ Sto s' ∧ ItR ((pf n).take i) cs) (ri_list ?_)
    wtm_at "go"
    refine callF1 ⟨n, rfl, n1, Bd.up (n := 10) ⟨by omega⟩ (by decide), ?_⟩
    rw [lpD_eq n1 n2]
    wtm_at "go"
    refine ⟨_, rfl, ⟨_, _, _, rfl, rfl, rfl, [], s, rfl, hS, rfl, fun k a b h => by cases h⟩, ?_, ?_⟩
    · rintro i d o3 o4 o5 _ hd ⟨cs, s1, rfl, hS1, hI⟩
      rw [List.getElem?_map] at hd
      obtain ⟨⟨p, e⟩, hq, rfl⟩ := Option.map_eq_some_iff.mp hd
      obtain ⟨hp, he1, he2, hdv⟩ := ok.m _ (List.mem_of_getElem? hq)
      dsimp only at hp he1 he2 hdv
      have hil := (List.getElem?_eq_some_iff.mp hq).1
      have hcl := hI.1
      rw [List.length_take] at hcl
      obtain ⟨a, b, c, d⟩ := pow_le900 n1 n2 hp.2.1 hdv
      have hp2 := hp.2.1
      have p0 : 0 < p := by omega
      have hpm : p ∣ p ^ e.toNat := pow_dvd1 p (by omega)
      have hmm := Int.mul_ediv_cancel' hpm
      rw [show prD (p, e) = D.tup [.int p, .int e] from rfl]
      refine rg_name rfl ?_
      dsimp only [List.set_cons_zero, List.set_cons_succ]
      wtm_at "go"
      refine callF1 ⟨p, e, 10, rfl, hp.bd, by omega, by omega, by omega, by decide, ?_⟩
      obtain ⟨m, hm⟩ : ∃ m, m = p ^ e.toNat := ⟨_, rfl⟩
      rw [← hm] at a b hmm hpm ⊢
      have hmp : 0 ≤ m / p := Int.ediv_nonneg (by omega) (by omega)
      have hmp2 : m / p ≤ m := Int.ediv_le_self p (by omega)
      have hpb := hp.bd
      have mb : Bd 11 m := ⟨by omega⟩
      have hc : CDivW m p := cdivw (by omega) hpb (by decide)
      wtm_at "go"
      refine takeF 1 rfl hS1 (Bd.up (n := 11) ⟨by omega⟩ (by decide)) fun at_ s2 hS2 t0 t1 => ?_
      have t2 : at_ < m + m / p := by omega
      wtm_at "go"
      refine rs_ifv (by wtm_at "vt") ?_ ?_
      · intro z; (try simp only [decide_eq_true_eq, decide_eq_false_iff_not, Bool.not_eq_true', Bool.and_eq_true, Bool.or_eq_true, Bool.not_eq_false', Bool.and_eq_false_imp, Bool.or_eq_false_iff, Bool.not_true, Bool.not_false] at z)
        refine rs_append (k := 0) (by wtm_at "ve") rfl ?_
        wtm_at "go"
        refine ⟨0, _, rfl, len_lt (by rw [List.length_map, List.length_map]; omega), ?_⟩
        refine ⟨_, _, _, rfl, cs ++ [(at_, 1)], s2, by rw [List.map_append, List.map_append]; rfl, hS2, itR_snoc hI hq (.inl ⟨rfl, t0, by rw [← hm]; exact z⟩)⟩
      · intro z; (try simp only [decide_eq_true_eq, decide_eq_false_iff_not, Bool.not_eq_true', Bool.and_eq_true, Bool.or_eq_true, Bool.not_eq_false', Bool.and_eq_false_imp, Bool.or_eq_false_iff, Bool.not_true, Bool.not_false] at z)
        have h1 : (at_ - m) * p < m := by
          have := Int.mul_lt_mul_of_pos_right (show at_ - m < m / p by omega) p0
          rw [Int.mul_comm (m / p), hmm] at this
          exact this
        have h0 : 0 ≤ (at_ - m) * p := Int.mul_nonneg (by omega) (by omega)
        have ab : Bd 11 (at_ - m) := ⟨by omega⟩
        have hc2 : CMulW (at_ - m) p := cmulw ab hpb (by decide)
        refine rs_append (k := 0) (by wtm_at "ve") rfl ?_
        wtm_at "go"
        refine ⟨0, _, rfl, len_lt (by rw [List.length_map, List.length_map]; omega), ?_⟩
        refine ⟨_, _, _, rfl, cs ++ [(1, (at_ - m) * p)], s2, by rw [List.map_append, List.map_append]; rfl, hS2, itR_snoc hI hq (.inr ⟨rfl, h0, by rw [← hm]; exact h1, ?_, ?_⟩)⟩
        · exact Int.dvd_mul_left ..
        · dsimp only
          intro w
          exact no_one hp2 ⟨at_ - m, by rw [Int.mul_comm]; exact w.symm⟩
    · rintro o3 o4 o5 _ ⟨cs, s1, rfl, hS1, hI⟩
      rw [List.length_map, List.take_length] at hI
      exact ⟨_, _, _, rfl, cs, s1, rfl, hS1, hI⟩
  rintro o3 o4 o5 _ ⟨cs, s1, rfl, hS1, hI⟩
  dsimp only [List.set_cons_zero, List.set_cons_succ]
  refine rs_ret (re_sub ?_)
  wtm_at "go"
  refine rc_tupA (k := 0) rfl ⟨_, .cons _ (.refl _), ?_⟩
  exact hR cs s1 hS1 hI

/-! _law_bad_class: a row that is no class -/
def fs__law_bad_class : FS := fun ws μ R _ => ∃ (st : Addr) (s : List W) (n : Int), ws = [.at st, .i n] ∧ μ = [(st, .lst s)] ∧ Sto s ∧ 1 ≤ n ∧ n ≤ 900 ∧ ∀ (cs : List (Int × Int)) s', Sto s' → cs.length ≤ 20 → clsB n cs = false → R (.dat (.tup (cs.map prD))) [(st, .lst s')]
theorem clsB_len {n : Int} {cs : List (Int × Int)} (h : cs.length ≠ (pf n).length) : clsB n cs = false := by
  unfold clsB
  rw [decide_eq_false h, Bool.false_and]
theorem clsB_bent {n : Int} {cs : List (Int × Int)} {i : Nat} {q c : Int × Int} (hq : (pf n)[i]? = some q) (hc : cs[i]? = some c) (h : itemB c.1 c.2 q.1 (q.1 ^ q.2.toNat) = false) : clsB n cs = false := by
  unfold clsB
  have : ((((pf n).zip cs).map fun q => itemB q.2.1 q.2.2 q.1.1 (q.1.1 ^ q.1.2.toNat)).all id) = false := by
    rw [List.all_eq_false]
    refine ⟨false, List.mem_map.mpr ⟨(q, c), List.mem_iff_getElem?.mpr ⟨i, ?_⟩, h⟩, by simp⟩
    rw [List.getElem?_zip_eq_some]
    exact ⟨hq, hc⟩
  rw [this, Bool.and_false]
theorem fn__law_bad_class (B : Base P w K mg base) : Fn P w K mg base "_law_bad_class" 6 ["store", "n"] fs__law_bad_class := by
  have F__law_some_class := fn__law_some_class B
  have F__law_take := fn__law_take B
  have F__law_power := fn__law_power B
  have F__law_parts := fn__law_parts B
  have F__law_pick := fn__law_pick B
  refine fn_mk (st := s__law_bad_class) (gl__law_bad_class B) (df__law_bad_class B) sc__law_bad_class (fun ws μ R X h => (by first | exact h.1 | (obtain ⟨_, rfl, _⟩ := h; rfl) | (obtain ⟨_, _, rfl, _⟩ := h; rfl) | (obtain ⟨_, _, _, rfl, _⟩ := h; rfl) | (obtain ⟨_, _, _, _, rfl, _⟩ := h; rfl) | (obtain ⟨_, _, _, _, _, rfl, _⟩ := h; rfl) | (obtain ⟨_, _, _, _, _, _, rfl, _⟩ := h; rfl) | (obtain ⟨_, _, _, _, _, _, _, rfl, _⟩ := h; rfl) | (obtain ⟨_, _, _, _, _, _, _, _, rfl, _⟩ := h; rfl))) (fun _ _ _ _ _ _ us hl => match us, hl with | [_, _], _ => rfl) fun cdv A outer s H E hr => ⟨_, (pss_cons (ps_set (i := 2) sc__law_bad_class.nd rfl (Or.inl rfl) (pe_ix ix_seq (pe_fn F__law_parts hr (by decide) rfl (takes_of rfl rfl rfl rfl) (pa_cons (pv 1) pa_nil)) pe_int (fun _ _ => rfl)))
  (pss_cons (ps_set (i := 3) sc__law_bad_class.nd rfl (Or.inl rfl) (pe_fn F__law_some_class hr (by decide) rfl (takes_of rfl rfl rfl rfl) (pa_cons (pv 0) (pa_cons (pv 1) pa_nil))))
  (pss_cons (ps_set (i := 4) sc__law_bad_class.nd rfl (Or.inl rfl) (pe_fn F__law_take hr (by decide) rfl (takes_of rfl rfl rfl rfl) (pa_cons (pv 0) (pa_cons pe_int pa_nil))))
  (pss_cons (ps_if (PW.pt (pw_or (pt_cmpR op_eq (pe_callB cr_len (by rfl) (fr_len B) (by decide +kernel) (pa_cons (pv 2) pa_nil)) pe_int (nomark _)) (pw_or1 (pt_cmpR op_eq (pv 4) pe_int (nomark _))))) (pss_one (ps_ret (pe_op op_catA (pv 3) (pe_tup (pa_cons (pe_fn F__law_pick hr (by decide) rfl (takes_of rfl rfl rfl rfl) (pa_cons (pv 0) (pa_cons (pe_lst (pa_cons (pe_tup (pa_cons pe_int (pa_cons pe_int pa_nil))) (pa_cons (pe_tup (pa_cons pe_int (pa_cons pe_int pa_nil))) (pa_cons (pe_tup (pa_cons pe_int (pa_cons pe_int pa_nil))) pa_nil)))) pa_nil))) pa_nil))))) pss_nil)
  (pss_cons (ps_if (pt_cmpR op_eq (pv 4) pe_int (nomark _)) (pss_one (ps_ret (pe_slice sl_tupA (pv 3) po_none (po_some (pe_un un_neg pe_int))))) pss_nil)
  (pss_cons (ps_set (i := 5) sc__law_bad_class.nd rfl (Or.inl rfl) (pe_fn F__law_take hr (by decide) rfl (takes_of rfl rfl rfl rfl) (pa_cons (pv 0) (pa_cons (pe_callB cr_len (by rfl) (fr_len B) (by decide +kernel) (pa_cons (pv 2) pa_nil)) pa_nil))))
  (pss_cons (ps_set (i := 6) sc__law_bad_class.nd rfl (Or.inl rfl) (pe_ix ix_seq (pe_ix ix_seq (pv 2) (pv 5) (fun _ _ => rfl)) pe_int (fun _ _ => rfl)))
  (pss_cons (ps_set (i := 7) sc__law_bad_class.nd rfl (Or.inl rfl) (pe_fn F__law_power hr (by decide) rfl (takes_of rfl rfl rfl rfl) (pa_cons (pv 6) (pa_cons (pe_ix ix_seq (pe_ix ix_seq (pv 2) (pv 5) (fun _ _ => rfl)) pe_int (fun _ _ => rfl)) pa_nil))))
  (pss_cons (ps_set (i := 8) sc__law_bad_class.nd rfl (Or.inl rfl) (pe_ix ix_seq (pe_lst (pa_cons (pe_tup (pa_cons (pv 7) (pa_cons pe_int pa_nil))) (pa_cons (pe_tup (pa_cons (pe_un un_neg pe_int) (pa_cons pe_int pa_nil))) (pa_cons (pe_tup (pa_cons pe_int (pa_cons (pv 7) pa_nil))) (pa_cons (pe_tup (pa_cons pe_int (pa_cons (pe_un un_neg (pv 6)) pa_nil))) (pa_cons (pe_tup (pa_cons pe_int (pa_cons (pe_op op_add (pv 6) pe_int) pa_nil))) (pa_cons (pe_tup (pa_cons pe_int (pa_cons pe_int pa_nil))) (pa_cons (pe_tup (pa_cons pe_int (pa_cons pe_int pa_nil))) (pa_cons (pe_tup (pa_cons (pe_op op_add (pv 7) pe_int) (pa_cons pe_int pa_nil))) (pa_cons (pe_tup (pa_cons pe_int (pa_cons (pv 6) pa_nil))) pa_nil)))))))))) (pe_fn F__law_take hr (by decide) rfl (takes_of rfl rfl rfl rfl) (pa_cons (pv 0) (pa_cons pe_int pa_nil))) (fun _ _ => rfl)))
  (pss_one (ps_ret (pe_op op_catA (pe_op op_catA (pe_slice sl_tupA (pv 3) po_none (po_some (pv 5))) (pe_tup (pa_cons (pv 8) pa_nil))) (pe_slice sl_tupA (pv 3) (po_some (pe_op op_add (pv 5) pe_int)) po_none))))))))))))), fun ws μ R X h => ?_⟩
  obtain ⟨st, s, n, rfl, rfl, hS, n1, n2, hR⟩ := h
  change RS _ _ [some _, some _, none, none, none, none, none, none, none] _ _
  (try dsimp only [cxOf])
  have ok := pf_ok n1 n2
  have hln := pf_len n1 n2
  wtm_at "go"
  refine callF0 ⟨n, rfl, n1, Bd.up (n := 10) ⟨by omega⟩ (by decide), ?_⟩
  rw [lpD_eq n1 n2]
  wtm_at "go"
  refine callF1 ⟨st, s, n, rfl, rfl, hS, n1, n2, fun gs s1 hS1 hg => ?_⟩
  have hgl := hg.1
  wtm_at "go"
  refine take0 4 (by decide +kernel) hS1 fun kind s2 hS2 k0 k1 _ => ?_
  wtm_at "nx"
  refine rs_ifv (by wtm_at "vt") ?_ ?_
  · intro _
    wtm_at "go"
    wtm_at "fl"
    refine pick0 rfl (by simp) (by simp) hS2 fun x s3 hx hS3 => ?_
    obtain ⟨c, rfl⟩ : ∃ c, x = prD c := by
      simp only [List.mem_cons, List.not_mem_nil, or_false] at hx
      rcases hx with h | h | h <;> exact ⟨(_, _), h⟩
    wtm_at "go"
    refine ro_catT (len_ok (by rw [List.length_map]; show _ + 1 ≤ _; omega)) ?_
    have := hR (gs ++ [c]) s3 hS3 (by rw [List.length_append]; show _ + 1 ≤ _; omega) (clsB_len (by rw [List.length_append]; show _ + 1 ≠ _; omega))
    rw [List.map_append] at this
    exact this
  intro hb
  rw [List.length_map] at hb
  have hpos : 0 < (pf n).length := by
    rcases Nat.eq_zero_or_pos (pf n).length with z | z
    · rw [z] at hb; simp at hb
    · exact z
  wtm_at "nx"
  refine rs_ifv (by wtm_at "vt") ?_ ?_
  · intro _
    refine rs_ret (re_slH ?_)
    wtm_at "go"
    refine ⟨_, rfl, rsl_tup ?_⟩
    rw [cut_last, List.length_map, ← List.map_take]
    exact hR _ s2 hS2 (by rw [List.length_take]; omega) (clsB_len (by rw [List.length_take]; omega))
  intro _
  wtm_at "go"
  refine takeF 0 rfl hS2 (by rw [List.length_map]; exact Bd.up (n := 10) ⟨by omega⟩ (by decide)) fun at_ s3 hS3 t0 t1 => ?_
  rw [List.length_map] at t1
  have t2 : at_ < (pf n).length := by omega
  obtain ⟨i, rfl⟩ := Int.eq_ofNat_of_zero_le t0
  have hil : i < (pf n).length := by omega
  obtain ⟨⟨p, e⟩, hq⟩ : ∃ q, (pf n)[i]? = some q := ⟨_, List.getElem?_eq_getElem hil⟩
  obtain ⟨hp, he1, he2, hdv⟩ := ok.m _ (List.mem_of_getElem? hq)
  dsimp only at hp he1 he2 hdv
  obtain ⟨a, b, c, d⟩ := pow_le900 n1 n2 hp.2.1 hdv
  have hp2 := hp.2.1
  have p0 : 0 < p := by omega
  have hpm : p ∣ p ^ e.toNat := pow_dvd1 p (by omega)
  have hm2 := Int.le_of_dvd (by omega) hpm
  have hat : atI ((pf n).map prD) (i : Int) = some (.tup [.int p, .int e]) := Sn.atI_nat (by rw [List.getElem?_map, hq]; rfl)
  wtm_at "go"
  refine callF1 ⟨p, e, 10, rfl, hp.bd, by omega, by omega, by omega, by decide, ?_⟩
  obtain ⟨m, hm⟩ : ∃ m, m = p ^ e.toNat := ⟨_, rfl⟩
  rw [← hm] at a b hpm hm2 ⊢
  wtm_at "rx"
  wtm_at "rs"
  refine rs_asg (re_op ?_)
  wtm_at "fl"
  refine take0 4 (by decide +kernel) hS3 fun r s4 hS4 r0 r1 _ => ?_
  have pm : ∀ x : Int, x % p = 0 ∨ 1 ≤ x % p := fun x => by have := Int.emod_nonneg x (show p ≠ 0 by omega); omega
  have p1 : (p + 1) % p = 1 := by rw [Int.add_emod_left]; exact Int.emod_eq_of_lt (by decide) (by omega)
  have ib : ∀ a b : Int, ¬ (b = 1 ∧ 0 ≤ a ∧ a < m) → ¬ (b ≠ 1 ∧ a = 1 ∧ 0 ≤ b ∧ b < m ∧ b % p = 0) → itemB a b p m = false := fun a b h1 h2 => by
    unfold itemB
    by_cases z : b = 1
    · rw [if_pos z, Bool.eq_false_iff]
      intro y
      simp only [Bool.and_eq_true, decide_eq_true_eq] at y
      exact h1 ⟨z, y⟩
    · rw [if_neg z, Bool.eq_false_iff]
      intro y
      simp only [Bool.and_eq_true, decide_eq_true_eq] at y
      exact h2 ⟨z, y.1, y.2.1.1, y.2.1.2, y.2.2⟩
  refine ro_pickL (fun d => ∃ c : Int × Int, d = prD c ∧ itemB c.1 c.2 p m = false) r0 r1 ⟨⟨(m, 1), rfl, ib _ _ (by omega) (by omega)⟩, ⟨(-1, 1), rfl, ib _ _ (by omega) (by omega)⟩, ⟨(1, m), rfl, ib _ _ (by omega) (by omega)⟩, ⟨(1, -p), rfl, ib _ _ (by omega) (by omega)⟩, ⟨(1, p + 1), rfl, ib _ _ (by omega) (fun z => absurd (p1.symm.trans z.2.2.2.2) (by decide))⟩, ⟨(0, 0), rfl, ib _ _ (by omega) (by omega)⟩, ⟨(2, 0), rfl, ib _ _ (by omega) (by omega)⟩, ⟨(m + 1, 1), rfl, ib _ _ (by omega) (by omega)⟩, ⟨(2, p), rfl, ib _ _ (by omega) (by omega)⟩, trivial⟩ ?_
  rintro _ ⟨c, rfl, hc⟩
  refine rg_name rfl ?_
  dsimp only [List.set_cons_zero, List.set_cons_succ]
  wtm_at "go"
  refine re_slH ?_
  wtm_at "go"
  refine ⟨_, rfl, rsl_tup ?_⟩
  rw [Sn.cut_to (by rw [List.length_map]; omega)]
  wtm_at "go"
  refine ro_catT (len_ok (by rw [List.length_take, List.length_map]; show _ + 1 ≤ _; omega)) ?_
  refine re_slL ?_
  wtm_at "go"
  refine ⟨_, rfl, rsl_tup ?_⟩
  rw [show (i : Int) + 1 = ((i + 1 : Nat) : Int) by omega, Sn.cut_from]
  refine ro_catT (len_ok (by rw [List.length_append, List.length_take, List.length_drop, List.length_map]; show _ + 1 + _ ≤ _; omega)) ?_
  have hl : (gs.take i ++ [c]).length = i + 1 := by rw [List.length_append, List.length_take]; show _ + 1 = _; omega
  have := hR (gs.take i ++ [c] ++ gs.drop (i + 1)) s4 hS4 (by rw [List.length_append, hl, List.length_drop]; omega) (clsB_bent hq (c := c) (by
    rw [List.getElem?_append_left (by omega), List.getElem?_append_right (by rw [List.length_take]; omega), List.length_take, show i - min i gs.length = 0 by omega]; rfl) (by dsimp only; rw [← hm]; exact hc))
  rw [List.map_append, List.map_append, List.map_take, List.map_drop] at this
  exact this

/-! _law_classes_right: keys, fractions, coarser classes of drawn classes -/
theorem clsB_good {n : Int} {cs : List (Int × Int)} (n1 : 1 ≤ n) (n2 : n ≤ 900) (h : ItR (pf n) cs) : clsB n cs = true := by
  unfold clsB
  rw [decide_eq_true h.1, Bool.true_and, List.all_eq_true]
  intro b hb
  obtain ⟨⟨q, c⟩, hq, rfl⟩ := List.mem_map.mp hb
  obtain ⟨i, hi, e⟩ := List.mem_iff_getElem.mp hq
  rw [List.length_zip] at hi
  rw [List.getElem_zip] at e
  injection e with e1 e2
  have h1 : (pf n)[i]? = some q := by rw [← e1]; exact List.getElem?_eq_getElem _
  have h2 : cs[i]? = some c := by rw [← e2]; exact List.getElem?_eq_getElem _
  have hp := ((pf_ok n1 n2).m q (List.mem_of_getElem? h1)).1
  show itemB c.1 c.2 q.1 _ = true
  unfold itemB
  rcases h.2 i q c h1 h2 with ⟨a, b, c⟩ | ⟨a, b, c, d, e⟩
  · rw [if_pos a, decide_eq_true b, decide_eq_true c]; rfl
  · rw [if_neg e, decide_eq_true a, decide_eq_true b, decide_eq_true c, decide_eq_true (Int.emod_eq_zero_of_dvd d)]; rfl
theorem abv_itm {p : Int} {e : Nat} {c : Int × Int} {f : Nat} (hp : 2 ≤ p) (hf : 1 ≤ f) (hfe : f ≤ e) (h : Itm p e c) : ∃ b : Int × Int, abvD c.1 c.2 p f = prD b ∧ Itm p f b ∧ p ^ f ∣ c.1 * b.2 - c.2 * b.1 := by
  have hP := pow_one_le hp f
  have hd1 : p ∣ p ^ f := pow_dvd1 p hf
  unfold abvD
  rw [if_neg (by omega)]
  rcases h with ⟨h1, h2, h3⟩ | ⟨h1, h2, h3, h4, h5⟩
  · rw [if_pos h1]
    refine ⟨(c.1 % p ^ f, 1), rfl, .inl ⟨rfl, Int.emod_nonneg _ (by omega), Int.emod_lt_of_pos _ (by omega)⟩, ?_⟩
    rw [h1]
    dsimp only
    rw [Int.mul_one, Int.one_mul]
    exact Int.dvd_self_sub_emod
  · rw [if_neg h5]
    have e1 : p ^ f ∣ c.2 - c.2 % p ^ f := Int.dvd_self_sub_emod
    have h6 : p ∣ c.2 % p ^ f := by
      have := Int.dvd_sub h4 (Int.dvd_trans hd1 e1)
      rwa [Int.sub_sub_self] at this
    refine ⟨(1, c.2 % p ^ f), rfl, .inr ⟨rfl, Int.emod_nonneg _ (by omega), Int.emod_lt_of_pos _ (by omega), h6, fun z => ?_⟩, ?_⟩
    · dsimp only at z
      rw [z] at h6
      exact no_one hp h6
    · rw [h1]
      dsimp only
      rw [Int.mul_one, Int.one_mul, show c.2 % p ^ f - c.2 = -(c.2 - c.2 % p ^ f) by omega, Int.dvd_neg]
      exact e1
/-- the coarser class: items, each near to that of the same prime -/
theorem coL_ok {n d : Int} {cs : List (Int × Int)} (n1 : 1 ≤ n) (n2 : n ≤ 900) (d1 : 1 ≤ d) (hd : d ∣ n) (h : ItR (pf n) cs) : ∃ bs : List (Int × Int), coL n d cs = bs.map prD ∧ ItR (pf d) bs ∧ ∀ (i : Nat) (q b : Int × Int), (pf d)[i]? = some q → bs[i]? = some b → ∃ (j : Nat) (e : Int) (c : Int × Int), (pf n)[j]? = some (q.1, e) ∧ cs[j]? = some c ∧ q.1 ^ q.2.toNat ∣ c.1 * b.2 - c.2 * b.1 := by
  have ok := pf_ok n1 n2
  have go : ∀ (ps cs : List (Int × Int)), (∀ q ∈ ps, IsP q.1 ∧ (q.1 ∣ d → (splF q.1 d).1 ≤ q.2.toNat ∧ 1 ≤ (splF q.1 d).1)) → ItR ps cs → ∃ bs : List (Int × Int), (((ps.zip cs).filter fun q => decide (d % q.1.1 = 0)).map fun q => abvD q.2.1 q.2.2 q.1.1 (splF q.1.1 d).1) = bs.map prD ∧ ItR ((ps.filter fun q => decide (d % q.1 = 0)).map fun q => (q.1, ((splF q.1 d).1 : Int))) bs ∧
      ∀ (i : Nat) (q b : Int × Int), ((ps.filter fun q => decide (d % q.1 = 0)).map fun q => (q.1, ((splF q.1 d).1 : Int)))[i]? = some q → bs[i]? = some b → ∃ (j : Nat) (e : Int) (c : Int × Int), ps[j]? = some (q.1, e) ∧ cs[j]? = some c ∧ q.1 ^ q.2.toNat ∣ c.1 * b.2 - c.2 * b.1 := fun ps => by
    induction ps with
    | nil =>
      intro cs _ hc
      exact ⟨[], rfl, ⟨rfl, fun i q c h => by cases h⟩, fun i q b h => by cases h⟩
    | cons q ps ih =>
      intro cs hp hc
      cases cs with
      | nil => have := hc.1; simp at this
      | cons c cs =>
        obtain ⟨h1, h2⟩ := hc.cons
        obtain ⟨bs, e1, e2, e3⟩ := ih cs (fun q' h' => hp q' (List.mem_cons_of_mem _ h')) h2
        obtain ⟨hq, hv⟩ := hp q List.mem_cons_self
        rw [List.zip_cons_cons, List.filter_cons, List.filter_cons]
        by_cases z : d % q.1 = 0
        · rw [if_pos (decide_eq_true z), if_pos (decide_eq_true z), List.map_cons, List.map_cons]
          obtain ⟨hv1, hv2⟩ := hv (Int.dvd_of_emod_eq_zero z)
          obtain ⟨b, f1, f2, f3⟩ := abv_itm hq.1 hv2 hv1 h1
          refine ⟨b :: bs, by rw [List.map_cons, e1, f1], ItR.mk (by rw [Int.toNat_natCast]; exact f2) e2, fun i q' b' g1 g2 => ?_⟩
          cases i with
          | zero =>
            cases g1; cases g2
            exact ⟨0, q.2, c, rfl, rfl, by rw [Int.toNat_natCast]; exact f3⟩
          | succ i =>
            obtain ⟨j, e, c', k1, k2, k3⟩ := e3 i q' b' (by simpa using g1) (by simpa using g2)
            exact ⟨j + 1, e, c', by simpa using k1, by simpa using k2, k3⟩
        · rw [if_neg (by simpa using z), if_neg (by simpa using z)]
          refine ⟨bs, e1, e2, fun i q' b' g1 g2 => ?_⟩
          obtain ⟨j, e, c', k1, k2, k3⟩ := e3 i q' b' g1 g2
          exact ⟨j + 1, e, c', by simpa using k1, by simpa using k2, k3⟩
  rw [pf_div n1 n2 d1 hd]
  refine go (pf n) cs (fun q hq => ⟨(ok.m q hq).1.2, fun hqd => ?_⟩) h
  have hp := (ok.m q hq).1.2
  obtain ⟨a, b⟩ := splF_ok hp.1 (show d ≠ 0 by omega)
  obtain ⟨a', b'⟩ := splF_ok hp.1 (show n ≠ 0 by omega)
  have he : q.2 = ((splF q.1 n).1 : Nat) := ((pf_mem n1 n2 q.1 q.2).mp hq).2.2.2
  constructor
  · rw [he, Int.toNat_natCast]
    rcases Nat.lt_or_ge (splF q.1 n).1 (splF q.1 d).1 with y | y
    · exfalso
      apply b'
      have h1 : q.1 ^ (splF q.1 d).1 ∣ n := Int.dvd_trans ⟨_, a⟩ hd
      rw [a', show (splF q.1 d).1 = (splF q.1 n).1 + ((splF q.1 d).1 - (splF q.1 n).1) by omega, Int.pow_add] at h1
      have h2 := Int.dvd_of_mul_dvd_mul_left (show q.1 ^ (splF q.1 n).1 ≠ 0 by have := pow_one_le hp.1 (splF q.1 n).1; omega) h1
      exact Int.dvd_trans (pow_dvd1 q.1 (by omega)) h2
    · exact y
  · rcases Nat.eq_zero_or_pos (splF q.1 d).1 with y | y
    · rw [y, Int.pow_zero, Int.one_mul] at a
      rw [a] at hqd
      exact (b hqd).elim
    · exact y
theorem selN {ps os : List (Int × Int)} {p : Int} (hs : ps.Pairwise fun a b => a.1 < b.1) {j : Nat} {e : Int} {o : Int × Int} (hj : ps[j]? = some (p, e)) (ho : os[j]? = some o) : ∀ k, j < k → k ≤ ps.length → selD .non ps os p k = prD o
  | 0, h, _ => by omega
  | k + 1, h, hk => by
    show (if _ then _ else _) = _
    have hg : ps.getD k (0, 0) = ps[k] := by rw [List.getD_eq_getElem?_getD, List.getElem?_eq_getElem (by omega)]; rfl
    obtain ⟨hjl, hje⟩ := List.getElem?_eq_some_iff.mp hj
    by_cases z : k = j
    · subst z
      rw [if_pos ⟨rfl, by rw [hg, hje]⟩, List.getD_eq_getElem?_getD, ho]; rfl
    · rw [if_neg]
      · exact selN hs hj ho k (by omega) (by omega)
      · rintro ⟨_, y⟩
        rw [hg] at y
        have := List.pairwise_iff_getElem.mp hs j k hjl (by omega) (by omega)
        rw [hje] at this
        dsimp only at this
        omega
def fs__law_classes_right : FS := fun ws μ R _ => ∃ (st : Addr) (s : List W) (n : Int), ws = [.at st, .i n] ∧ μ = [(st, .lst s)] ∧ Sto s ∧ 1 ≤ n ∧ n ≤ 900 ∧ ∀ s', Sto s' → R (.b true) [(st, .lst s')]
theorem fn__law_classes_right (B : Base P w K mg base) : Fn P w K mg base "_law_classes_right" 9 ["store", "n"] fs__law_classes_right := by
  have F__law_some_class := fn__law_some_class B
  have F__law_call := fn__law_call B
  have F__law_pick := fn__law_pick B
  have F__law_same := fn__law_same B
  have F__law_take := fn__law_take B
  have F__law_refuses := fn__law_refuses B
  have F__law_is_row := fn__law_is_row B
  have F_class_key := fn_class_key B
  have F__law_places_of := fn__law_places_of B
  have F__law_lowest := fn__law_lowest B
  have F__law_meets := fn__law_meets B
  have F__law_bad_class := fn__law_bad_class B
  refine fn_mk (st := s__law_classes_right) (gl__law_classes_right B) (df__law_classes_right B) sc__law_classes_right (fun ws μ R X h => (by first | exact h.1 | (obtain ⟨_, rfl, _⟩ := h; rfl) | (obtain ⟨_, _, rfl, _⟩ := h; rfl) | (obtain ⟨_, _, _, rfl, _⟩ := h; rfl) | (obtain ⟨_, _, _, _, rfl, _⟩ := h; rfl) | (obtain ⟨_, _, _, _, _, rfl, _⟩ := h; rfl) | (obtain ⟨_, _, _, _, _, _, rfl, _⟩ := h; rfl) | (obtain ⟨_, _, _, _, _, _, _, rfl, _⟩ := h; rfl) | (obtain ⟨_, _, _, _, _, _, _, _, rfl, _⟩ := h; rfl))) (fun _ _ _ _ _ _ us hl => match us, hl with | [_, _], _ => rfl) fun cdv A outer s H E hr => ⟨_, (pss_cons (ps_set (i := 2) sc__law_classes_right.nd rfl (Or.inl rfl) (pe_fn F__law_some_class hr (by decide) rfl (takes_of rfl rfl rfl rfl) (pa_cons (pv 0) (pa_cons (pv 1) pa_nil))))
  (pss_cons (ps_set (i := 3) sc__law_classes_right.nd rfl (Or.inl rfl) (pe_fn F__law_some_class hr (by decide) rfl (takes_of rfl rfl rfl rfl) (pa_cons (pv 0) (pa_cons (pv 1) pa_nil))))
  (pss_cons (ps_if (PW.pt (pw_or (pt_not (pt_val (pe_fn F__law_is_row hr (by decide) rfl (takes_of rfl rfl rfl rfl) (pa_cons (pe_fn F_class_key hr (by decide) rfl (takes_of rfl rfl rfl rfl) (pa_cons (pv 2) pa_nil)) (pa_cons pe_int pa_nil))))) (pw_or1 (pt_not (pt_val (pe_fn F__law_is_row hr (by decide) rfl (takes_of rfl rfl rfl rfl) (pa_cons (pe_fn F_class_key hr (by decide) rfl (takes_of rfl rfl rfl rfl) (pa_cons (pv 3) pa_nil)) (pa_cons pe_int pa_nil)))))))) (pss_one (ps_ret pe_bl)) pss_nil)
  (pss_cons (ps_if (pt_cmpR op_ne (pe_cmpR (op_ltT hr.units0) (pe_fn F_class_key hr (by decide) rfl (takes_of rfl rfl rfl rfl) (pa_cons (pv 2) pa_nil)) (pe_fn F_class_key hr (by decide) rfl (takes_of rfl rfl rfl rfl) (pa_cons (pv 3) pa_nil)) (nomark _)) (pe_cmpR (op_ltL hr.units0) (pe_fn F__law_places_of hr (by decide) rfl (takes_of rfl rfl rfl rfl) (pa_cons (pv 2) (pa_cons (pv 1) pa_nil))) (pe_fn F__law_places_of hr (by decide) rfl (takes_of rfl rfl rfl rfl) (pa_cons (pv 3) (pa_cons (pv 1) pa_nil))) (nomark _)) (nomark _)) (pss_one (ps_ret pe_bl)) pss_nil)
  (pss_cons (ps_if (pt_not (pt_val (pe_fn F__law_same hr (by decide) rfl (takes_of rfl rfl rfl rfl) (pa_cons (pe_fn F__law_call hr (by decide) rfl (takes_of rfl rfl rfl rfl) (pa_cons pe_str (pa_cons (pe_lst (pa_cons (pv 2) (pa_cons (pv 1) pa_nil))) pa_nil))) (pa_cons (pe_tup (pa_cons pe_str (pa_cons pe_bl pa_nil))) pa_nil))))) (pss_one (ps_ret pe_bl)) pss_nil)
  (pss_cons (ps_if (pt_not (pt_val (pe_fn F__law_same hr (by decide) rfl (takes_of rfl rfl rfl rfl) (pa_cons (pe_fn F__law_call hr (by decide) rfl (takes_of rfl rfl rfl rfl) (pa_cons pe_str (pa_cons (pe_lst (pa_cons (pe_fn F__law_bad_class hr (by decide) rfl (takes_of rfl rfl rfl rfl) (pa_cons (pv 0) (pa_cons (pv 1) pa_nil))) (pa_cons (pv 1) pa_nil))) pa_nil))) (pa_cons (pe_tup (pa_cons pe_str (pa_cons pe_bl pa_nil))) pa_nil))))) (pss_one (ps_ret pe_bl)) pss_nil)
  (pss_cons (ps_set (i := 4) sc__law_classes_right.nd rfl (Or.inl rfl) (pe_fn F__law_call hr (by decide) rfl (takes_of rfl rfl rfl rfl) (pa_cons pe_str (pa_cons (pe_lst (pa_cons (pv 2) (pa_cons (pv 1) pa_nil))) pa_nil))))
  (pss_cons (ps_if (PW.pt (pw_or (pt_cmpR op_ne (pe_callB cr_len (by rfl) (fr_len B) (by decide +kernel) (pa_cons (pv 4) pa_nil)) pe_int (nomark _)) (pw_or (pt_not (pt_val (pe_fn F__law_is_row hr (by decide) rfl (takes_of rfl rfl rfl rfl) (pa_cons (pe_ix ix_seq (pv 4) pe_int (fun _ _ => rfl)) (pa_cons pe_int pa_nil))))) (pw_or1 (pt_cmpR op_ne (pe_callB cr_len (by rfl) (fr_len B) (by decide +kernel) (pa_cons (pe_ix ix_seq (pv 4) pe_int (fun _ _ => rfl)) pa_nil)) pe_int (nomark _)))))) (pss_one (ps_ret pe_bl)) pss_nil)
  (pss_cons (ps_set (i := 5) sc__law_classes_right.nd rfl (Or.inl rfl) (pe_ix ix_seq (pv 4) pe_int (fun _ _ => rfl)))
  (pss_cons (ps_if (PW.pt (pw_or (pt_cmpR (op_neD hr.units) (pe_fn F__law_lowest hr (by decide) rfl (takes_of rfl rfl rfl rfl) (pa_cons (pe_ix ix_seq (pv 5) pe_int (fun _ _ => rfl)) (pa_cons (pe_ix ix_seq (pv 5) pe_int (fun _ _ => rfl)) pa_nil))) (pv 5) (nomark _)) (pw_or1 (pt_not (pt_val (pe_fn F__law_meets hr (by decide) rfl (takes_of rfl rfl rfl rfl) (pa_cons (pv 2) (pa_cons (pv 1) (pa_cons (pv 5) (pa_cons (pe_tup pa_nil) (pa_cons pe_int pa_nil))))))))))) (pss_one (ps_ret pe_bl)) pss_nil)
  (pss_cons (ps_set (i := 6) sc__law_classes_right.nd rfl (Or.inl rfl) (pe_fn F__law_pick hr (by decide) rfl (takes_of rfl rfl rfl rfl) (pa_cons (pv 0) (pa_cons (pe_lcD (own := [("k", 7)]) rfl sc__law_classes_right.nd (pi_range2 rfl (fr_range B) (pa_cons pe_int (pa_cons (pe_op op_add (pv 1) pe_int) pa_nil))) (blkOk_by (own := [("k", 7)]) (N := ["store", "n", "one", "two", "answer", "f", "d", "k", "coarse", "strange"]) (sc := defScope s__law_classes_right) (by decide +kernel)) (fun _ _ _ _ _ => (pg_name (i := 7) sc__law_classes_right.nd rfl (Or.inl rfl))) (fun _ _ _ _ _ => (pts_one (pt_cmpR op_eq (pe_op op_mod (pe_callTy cr_int1 (by rfl) (fr_int B) (by decide +kernel) (pa_cons (pv 1) pa_nil)) (pv 7)) pe_int (nomark _)))) (fun _ _ _ _ _ => (pv 7)) (by intro _; rfl) (by intro _ _ _ _ _; (try dsimp only [Cx.blk, cxOf]) <;> exact rfl) (by intro _ _ _ _ _; (try dsimp only [Cx.blk, cxOf]) <;> exact rfl) (by intro _ _ _ _ _; (try dsimp only [Cx.blk, cxOf]) <;> exact rfl)) pa_nil))))
  (pss_cons (ps_set (i := 8) sc__law_classes_right.nd rfl (Or.inl rfl) (pe_fn F__law_call hr (by decide) rfl (takes_of rfl rfl rfl rfl) (pa_cons pe_str (pa_cons (pe_lst (pa_cons (pv 2) (pa_cons (pv 1) (pa_cons (pv 6) pa_nil)))) pa_nil))))
  (pss_cons (ps_if (PW.pt (pw_or (pt_cmpR op_ne (pe_callB cr_len (by rfl) (fr_len B) (by decide +kernel) (pa_cons (pv 8) pa_nil)) pe_int (nomark _)) (pw_or1 (pt_not (pt_val (pe_fn F__law_meets hr (by decide) rfl (takes_of rfl rfl rfl rfl) (pa_cons (pe_ix ix_seq (pv 8) pe_int (fun _ _ => rfl)) (pa_cons (pv 6) (pa_cons pe_non (pa_cons (pv 2) (pa_cons (pv 1) pa_nil))))))))))) (pss_one (ps_ret pe_bl)) pss_nil)
  (pss_cons (ps_set (i := 9) sc__law_classes_right.nd rfl (Or.inl rfl) (pe_ix ix_seq (pe_lst (pa_cons pe_int (pa_cons (pe_un un_neg pe_int) (pa_cons (pe_un un_neg (pv 1)) (pa_cons (pe_op op_add (pv 1) pe_int) (pa_cons pe_int (pa_cons (pe_op op_add (pe_op op_pow pe_int pe_int) pe_int) (pa_cons (pe_op op_sub (pv 1) pe_int) pa_nil)))))))) (pe_fn F__law_take hr (by decide) rfl (takes_of rfl rfl rfl rfl) (pa_cons (pv 0) (pa_cons pe_int pa_nil))) (fun _ _ => rfl)))
  (pss_cons (ps_if (PW.pt (pw_and (pt_cmpR op_ge (pv 9) pe_int (nomark _)) (pw_and1 (pt_cmpR op_eq (pe_op op_mod (pe_callTy cr_int1 (by rfl) (fr_int B) (by decide +kernel) (pa_cons (pv 1) pa_nil)) (pv 9)) pe_int (nomark _))))) (pss_one (ps_set (i := 9) sc__law_classes_right.nd rfl (Or.inl rfl) pe_int)) pss_nil)
  (pss_cons (ps_if (pt_not (pt_val (pe_fn F__law_refuses hr (by decide) rfl (takes_of rfl rfl rfl rfl) (pa_cons pe_str (pa_cons (pe_lst (pa_cons (pv 2) (pa_cons (pv 1) (pa_cons (pv 9) pa_nil)))) (pa_cons pe_str pa_nil)))))) (pss_one (ps_ret pe_bl)) pss_nil)
  (pss_one (ps_ret (pe_fn F__law_same hr (by decide) rfl (takes_of rfl rfl rfl rfl) (pa_cons (pe_fn F__law_call hr (by decide) rfl (takes_of rfl rfl rfl rfl) (pa_cons pe_str (pa_cons (pe_lst (pa_cons (pv 2) (pa_cons (pv 1) pa_nil))) pa_nil))) (pa_cons (pe_tup (pa_cons pe_str (pa_cons (pv 5) pa_nil))) pa_nil))))))))))))))))))))), fun ws μ R X h => ?_⟩
  obtain ⟨st, s, n, rfl, rfl, hS, n1, n2, hR⟩ := h
  change RS _ _ [some _, some _, none, none, none, none, none, none, none, none] _ _
  (try dsimp only [cxOf])
  have ok := pf_ok n1 n2
  have hln := pf_len n1 n2
  wtm_at "go"
  refine callF1 ⟨st, s, n, rfl, rfl, hS, n1, n2, fun cs s1 hS1 hc => ?_⟩
  wtm_at "go"
  refine callF1 ⟨st, s1, n, rfl, rfl, hS1, n1, n2, fun ds s2 hS2 hd => ?_⟩
  have hcl := hc.1
  have hdl := hd.1
  have hkp := key_place (fun q hq => (ok.m q hq).1.2.1) hc hd
  wtm_at "nx"
  refine rs_if ?_
  wtm_at "go"
  refine callF1 ⟨cs, rfl, by omega, ?_⟩
  wtm_at "go"
  refine callF1 ⟨ckL cs, rfl, by rw [ckL_len]; omega, ?_⟩
  wtm_at "go"
  refine callF1 ⟨ds, rfl, by omega, ?_⟩
  wtm_at "go"
  refine callF1 ⟨ckL ds, rfl, by rw [ckL_len]; omega, ?_⟩
  wtm_at "go"
  refine callF1 ⟨cs, rfl, by omega, ?_⟩
  wtm_at "go"
  refine callF1 ⟨ds, rfl, by omega, ?_⟩
  refine ro_v vo_ltT ?_
  wtm_at "go"
  refine callF1 ⟨cs, n, rfl, n1, n2, hc, ?_⟩
  wtm_at "go"
  refine callF1 ⟨ds, n, rfl, n1, n2, hd, ?_⟩
  refine ro_v vo_ltL ?_
  rw [hkp]
  wtm_at "go"
  refine br_f (by rw [decide_eq_true rfl]; rfl) ?_
  wtm_at "go"
  wtm_at "fl"
  refine callF1 ⟨_, _, rfl, .inr (.inr (.inr (.inr (.inl ⟨cs, n, rfl, rfl, fun z => by omega, fun _ _ => ⟨by omega, ?_⟩⟩))))⟩
  rw [clsB_good n1 n2 hc]
  wtm_at "go"
  refine sameT rfl rfl (by show 3 ≤ 1000000; decide) ?_
  wtm_at "go"
  refine re_lst ?_
  wtm_at "go"
  refine callF1 ⟨st, s2, n, rfl, rfl, hS2, n1, n2, fun bs s3 hS3 hbl hbad => ?_⟩
  wtm_at "go"
  refine dl_f rfl (by wtm_at "sz") ?_
  wtm_at "go"
  refine callF1 ⟨_, _, rfl, .inr (.inr (.inr (.inr (.inl ⟨bs, n, rfl, rfl, fun z => by omega, fun _ _ => ⟨by omega, ?_⟩⟩))))⟩
  rw [hbad]
  wtm_at "go"
  refine sameT rfl rfl (by show 3 ≤ 1000000; decide) ?_
  wtm_at "go"
  wtm_at "fl"
  refine callF1 ⟨_, _, rfl, .inr (.inr (.inr (.inr (.inr ⟨cs, n, rfl, rfl, fun z => by omega, fun _ _ => ⟨hc, fun d hfr => ?_⟩⟩))))⟩
  obtain ⟨fx, fy, rfl, hL, bx, by_, hnear⟩ := hfr.near n1 n2 hc
  have hxb : Bd 10 fx := ⟨by omega⟩
  have hyb : Bd 10 fy := ⟨by omega⟩
  wtm_at "nx"
  refine rs_if ?_
  wtm_at "go"
  refine callF1 ⟨[fx, fy], rfl, by simp, ?_⟩
  wtm_at "go"
  refine callF1 ⟨fx, fy, rfl, hxb.up (by decide), hyb.up (by decide), ?_⟩
  have hred : redD fx fy = .tup [.int fx, .int fy] := by
    have nz : ¬ (fx = 0 ∧ fy = 0) := by
      rintro ⟨rfl, rfl⟩
      rcases hL.q0 with h | h <;> omega
    rw [redD, if_neg nz]
    have := lowD_mul hL (s := 1) (by decide)
    rwa [Int.mul_one, Int.mul_one] at this
  rw [hred]
  wtm_at "go"
  refine ro_v (vo_neP (c := false) 1 rfl rfl (by simp)) ?_
  wtm_at "go"
  refine callF1 ⟨cs, [], n, 1, .tup [.int fx, .int fy], rfl, n1, n2, by decide, by decide, hc, fun z => (by cases z), fun k q c h1 h2 => ⟨(fx, fy), selA _ _ _ _, hxb.up (by decide), hyb.up (by decide), hnear k q c h1 h2⟩, ?_⟩
  wtm_at "go"
  refine re_lcG (fun d => d) (fun d => match d with | .int k => decide (n % k = 0) | _ => false) (ri_rng2 (ra_v (by wtm_at "va") ⟨1, n + 1, rfl, by omega, len_ok (by rw [rng_length]; omega), fun d hd => ?_, ?_⟩))
  · obtain ⟨i, hi, rfl⟩ := List.mem_map.mp hd
    have h0 : (0 : Int) < 1 + (i : Int) := by omega
    refine rgw_name (by decide) rfl ⟨rfl, ?_⟩
    wtm_at "go"
    refine ⟨rfl, rfl, fun _ => ?_⟩
    wtm_at "go"
    exact ⟨rfl, rfl⟩
  obtain ⟨dv, hdv⟩ : ∃ dv : List D, dv = ((rng 1 (n + 1 - 1).toNat).filter fun d => match d with | .int k => decide (n % k = 0) | _ => false).map fun d => d := ⟨_, rfl⟩
  have hdvm : ∀ d ∈ dv, ∃ k, d = .int k ∧ 1 ≤ k ∧ k ∣ n := fun d hm => by
    rw [hdv, List.map_id'] at hm
    obtain ⟨h1, h2⟩ := List.mem_filter.mp hm
    obtain ⟨i, hi, rfl⟩ := List.mem_map.mp h1
    exact ⟨_, rfl, by omega, Int.dvd_of_emod_eq_zero (of_decide_eq_true h2)⟩
  have hdl2 : dv.length ≤ 900 := by
    rw [hdv, List.length_map]
    refine Nat.le_trans (List.length_filter_le _ _) ?_
    rw [rng_length]; omega
  have hdne : dv ≠ [] := fun z => by
    have : D.int 1 ∈ dv := by
      rw [hdv, List.map_id']
      refine List.mem_filter.mpr ⟨List.mem_map.mpr ⟨0, List.mem_range.mpr (by omega), rfl⟩, ?_⟩
      show decide (n % 1 = 0) = true
      rw [Int.emod_one]; rfl
    rw [z] at this
    cases this
  rw [← hdv]
  refine dl_f (undat_map _) (len_ok (by omega)) ?_
  wtm_at "go"
  refine pick0 rfl hdne (by omega) hS3 fun x s4 hx hS4 => ?_
  obtain ⟨d, rfl, d1, hdn⟩ := hdvm x hx
  have hdle := Int.le_of_dvd (by omega) hdn
  obtain ⟨bs2, e1, e2, e3⟩ := coL_ok n1 n2 d1 hdn hc
  wtm_at "go"
  wtm_at "fl"
  refine callF1 ⟨_, _, rfl, .inr (.inr (.inr (.inl ⟨cs, n, d, rfl, rfl, fun z => by omega, fun _ _ => ⟨fun z => ?_, fun _ _ => ⟨by omega, ?_⟩⟩⟩)))⟩
  · rcases z with z | z | z
    · omega
    · omega
    · exact absurd hdn z
  rw [e1]
  wtm_at "nx"
  refine rs_if ?_
  wtm_at "go"
  refine callF1 ⟨bs2, cs, d, n, .non, rfl, d1, by omega, n1, n2, e2, fun _ => hcl, fun k q b h1 h2 => ?_, ?_⟩
  · obtain ⟨j, e, c, g1, g2, g3⟩ := e3 k q b h1 h2
    have hjl := (List.getElem?_eq_some_iff.mp g1).1
    obtain ⟨b1, b2⟩ : Bd 8000 c.1 ∧ Bd 8000 c.2 := by
      have hm := (ok.m _ (List.mem_of_getElem? g1))
      have hpw := (pow_le900 n1 n2 hm.1.2.1 hm.2.2.2).2.1
      dsimp only at hpw
      rcases hc.2 j _ _ g1 g2 with ⟨x1, x2, x3⟩ | ⟨x1, x2, x3, _⟩ <;> dsimp only at x3 <;> exact ⟨Bd.up (n := 10) ⟨by omega⟩ (by decide), Bd.up (n := 10) ⟨by omega⟩ (by decide)⟩
    exact ⟨c, selN ok.s g1 g2 _ hjl (Nat.le_refl _), b1, b2, g3⟩
  wtm_at "go"
  wtm_at "fl"
  refine take0 3 (by decide +kernel) hS4 fun r s5 hS5 r0 r1 _ => ?_
  wtm_at "go"
  refine ro_pickL (fun x => ∃ t, x = D.int t) r0 r1 ⟨⟨_, rfl⟩, ⟨_, rfl⟩, ⟨_, rfl⟩, ⟨_, rfl⟩, ⟨_, rfl⟩, ⟨_, rfl⟩, ⟨_, rfl⟩, trivial⟩ ?_
  rintro _ ⟨t, rfl⟩
  refine rg_name rfl ?_
  dsimp only [List.set_cons_zero, List.set_cons_succ]
  wtm_at "nx"
  refine rs_slot 9 (fun o μ' => ∃ t : Int, o = some (.i t) ∧ [(st, HC.lst s5)] = μ' ∧ (t < 1 ∨ t > 900 ∨ ¬ t ∣ n)) ?_ ?_
  · by_cases t0 : 1 ≤ t
    · have t1 : 0 < t := by omega
      refine rs_ifv (by wtm_at "vt") ?_ ?_
      · intro _
        wtm_at "go"
        exact ⟨_, rfl, 0, rfl, rfl, .inl (by decide)⟩
      · intro z; (try simp only [decide_eq_true_eq, decide_eq_false_iff_not, Bool.not_eq_true', Bool.and_eq_true, Bool.or_eq_true, Bool.not_eq_false', Bool.and_eq_false_imp, Bool.or_eq_false_iff, Bool.not_true, Bool.not_false] at z)
        wtm_at "go"
        exact ⟨_, rfl, t, rfl, rfl, .inr (.inr fun y => z t0 (Int.emod_eq_zero_of_dvd y))⟩
    · refine rs_ifF (b := false) (vt_andF (b := decide (1 ≤ t)) (by wtm_at "vt") (decide_eq_false t0)) rfl ?_
      wtm_at "go"
      exact ⟨_, rfl, t, rfl, rfl, .inl (by omega)⟩
  rintro _ _ ⟨t, rfl, rfl, ht⟩
  dsimp only [List.set_cons_zero, List.set_cons_succ]
  wtm_at "nx"
  refine rs_if ?_
  wtm_at "go"
  wtm_at "fl"
  refine callF1 ⟨_, _, _, rfl, .coaD (cs := cs) n1 n2 ht, ?_⟩
  wtm_at "go"
  wtm_at "fl"
  refine callF1 ⟨_, _, rfl, .inr (.inr (.inr (.inr (.inr ⟨cs, n, rfl, rfl, fun z => by omega, fun _ _ => ⟨hc, fun d2 hfr2 => ?_⟩⟩))))⟩
  have := hfr2.uniq n1 n2 hcl hfr
  subst this
  wtm_at "go"
  refine sameT rfl rfl (by show 5 ≤ 1000000; decide) ?_
  exact hR s5 hS5

/-! the law -/
theorem fn_law (B : Base P w K mg base) : Fn P w K mg base "law" 10 ["script"] fs_law := by
  have F__law_store := fn__law_store B
  have F__law_pick := fn__law_pick B
  have F__law_modulus_of := fn__law_modulus_of B
  have F__law_list_right := fn__law_list_right B
  have F__law_same := fn__law_same B
  have F__law_refuses := fn__law_refuses B
  have F__law_fractions_right := fn__law_fractions_right B
  have F__law_classes_right := fn__law_classes_right B
  have F__law_parts := fn__law_parts B
  have F__law_call := fn__law_call B
  have F__law_take := fn__law_take B
  have F__law_power := fn__law_power B
  refine fn_mk (st := s_law) (gl_law B) (df_law B) sc_law (fun ws μ R X h => (by first | exact h.1 | (obtain ⟨_, rfl, _⟩ := h; rfl) | (obtain ⟨_, _, rfl, _⟩ := h; rfl) | (obtain ⟨_, _, _, rfl, _⟩ := h; rfl) | (obtain ⟨_, _, _, _, rfl, _⟩ := h; rfl) | (obtain ⟨_, _, _, _, _, rfl, _⟩ := h; rfl) | (obtain ⟨_, _, _, _, _, _, rfl, _⟩ := h; rfl) | (obtain ⟨_, _, _, _, _, _, _, rfl, _⟩ := h; rfl) | (obtain ⟨_, _, _, _, _, _, _, _, rfl, _⟩ := h; rfl))) (fun _ _ _ _ _ _ us hl => match us, hl with | [_], _ => rfl) fun cdv A outer s H E hr => ⟨_, (pss_cons (ps_set (i := 1) sc_law.nd rfl (Or.inl rfl) (pe_fn F__law_store hr (by decide) rfl (takes_of rfl rfl rfl rfl) (pa_cons (pv 0) pa_nil)))
  (pss_cons (ps_for (passes_of rfl) rfl (pi_list (pe_lst (pa_cons (pe_fn F__law_modulus_of hr (by decide) rfl (takes_of rfl rfl rfl rfl) (pa_cons (pv 1) pa_nil)) (pa_cons (pe_fn F__law_modulus_of hr (by decide) rfl (takes_of rfl rfl rfl rfl) (pa_cons (pv 1) pa_nil)) (pa_cons pe_int pa_nil))))) (pg_name (i := 2) sc_law.nd rfl (Or.inl rfl)) (pss_cons (ps_if (PW.pt (pw_or (pt_not (pt_val (pe_fn F__law_fractions_right hr (by decide) rfl (takes_of rfl rfl rfl rfl) (pa_cons (pv 1) (pa_cons (pv 2) pa_nil))))) (pw_or1 (pt_not (pt_val (pe_fn F__law_classes_right hr (by decide) rfl (takes_of rfl rfl rfl rfl) (pa_cons (pv 1) (pa_cons (pv 2) pa_nil)))))))) (pss_one (ps_ret pe_bl)) pss_nil)
  (pss_cons (ps_set (i := 3) sc_law.nd rfl (Or.inl rfl) pe_int)
  (pss_cons (ps_for (passes_of rfl) rfl (pi_list (pe_callTy cr_listOf (by rfl) (fr_list B) (by decide +kernel) (pa_cons (pe_ix ix_seq (pe_fn F__law_parts hr (by decide) rfl (takes_of rfl rfl rfl rfl) (pa_cons (pv 2) pa_nil)) pe_int (fun _ _ => rfl)) pa_nil))) (pg_name (i := 4) sc_law.nd rfl (Or.inl rfl)) (pss_one (ps_set (i := 3) sc_law.nd rfl (Or.inl rfl) (pe_op op_mulW (pv 3) (pe_op op_add (pe_fn F__law_power hr (by decide) rfl (takes_of rfl rfl rfl rfl) (pa_cons (pe_ix ix_seq (pv 4) pe_int (fun _ _ => rfl)) (pa_cons (pe_ix ix_seq (pv 4) pe_int (fun _ _ => rfl)) pa_nil))) (pe_fn F__law_power hr (by decide) rfl (takes_of rfl rfl rfl rfl) (pa_cons (pe_ix ix_seq (pv 4) pe_int (fun _ _ => rfl)) (pa_cons (pe_op op_sub (pe_ix ix_seq (pv 4) pe_int (fun _ _ => rfl)) pe_int) pa_nil))))))))
  (pss_one (ps_if (pt_not (pt_val (pe_fn F__law_same hr (by decide) rfl (takes_of rfl rfl rfl rfl) (pa_cons (pe_fn F__law_call hr (by decide) rfl (takes_of rfl rfl rfl rfl) (pa_cons pe_str (pa_cons (pe_lst (pa_cons (pv 2) pa_nil)) pa_nil))) (pa_cons (pe_tup (pa_cons pe_str (pa_cons (pv 3) pa_nil))) pa_nil))))) (pss_one (ps_ret pe_bl)) pss_nil))))))
  (pss_cons (ps_if (pt_not (pt_val (pe_fn F__law_list_right hr (by decide) rfl (takes_of rfl rfl rfl rfl) (pa_cons (pe_op op_add pe_int (pe_fn F__law_take hr (by decide) rfl (takes_of rfl rfl rfl rfl) (pa_cons (pv 1) (pa_cons (pe_ix ix_seq (pe_lst (pa_cons pe_int (pa_cons pe_int (pa_cons pe_int (pa_cons pe_int (pa_cons pe_int pa_nil)))))) (pe_fn F__law_take hr (by decide) rfl (takes_of rfl rfl rfl rfl) (pa_cons (pv 1) (pa_cons pe_int pa_nil))) (fun _ _ => rfl)) pa_nil)))) pa_nil)))) (pss_one (ps_ret pe_bl)) pss_nil)
  (pss_cons (ps_set (i := 5) sc_law.nd rfl (Or.inl rfl) (pe_fn F__law_pick hr (by decide) rfl (takes_of rfl rfl rfl rfl) (pa_cons (pv 1) (pa_cons (pe_lst (pa_cons pe_int (pa_cons (pe_un un_neg pe_int) (pa_cons pe_int (pa_cons (pe_op op_add pe_int (pe_fn F__law_take hr (by decide) rfl (takes_of rfl rfl rfl rfl) (pa_cons (pv 1) (pa_cons (pe_op op_pow pe_int pe_int) pa_nil)))) (pa_cons (pe_un un_neg (pe_op op_pow pe_int pe_int)) pa_nil)))))) pa_nil))))
  (pss_cons (ps_set (i := 6) sc_law.nd rfl (Or.inl rfl) (pe_lst (pa_cons (pe_tup (pa_cons pe_str (pa_cons (pe_lst (pa_cons (pe_tup (pa_cons pe_int (pa_cons pe_int pa_nil))) (pa_cons (pv 5) pa_nil))) pa_nil))) (pa_cons (pe_tup (pa_cons pe_str (pa_cons (pe_lst (pa_cons (pv 5) pa_nil)) pa_nil))) (pa_cons (pe_tup (pa_cons pe_str (pa_cons (pe_lst (pa_cons (pe_tup (pa_cons (pe_tup (pa_cons pe_int (pa_cons pe_int pa_nil))) pa_nil)) (pa_cons (pv 5) pa_nil))) pa_nil))) (pa_cons (pe_tup (pa_cons pe_str (pa_cons (pe_lst (pa_cons (pe_tup (pa_cons (pe_tup (pa_cons pe_int (pa_cons pe_int pa_nil))) pa_nil)) (pa_cons (pv 5) pa_nil))) pa_nil))) pa_nil))))))
  (pss_cons (ps_set (i := 6) sc_law.nd rfl (Or.inl rfl) (pe_op op_cat (pv 6) (pe_lst (pa_cons (pe_tup (pa_cons pe_str (pa_cons (pe_lst (pa_cons (pe_tup (pa_cons (pe_tup (pa_cons pe_int (pa_cons pe_int pa_nil))) pa_nil)) (pa_cons (pv 5) (pa_cons pe_int pa_nil)))) pa_nil))) (pa_cons (pe_tup (pa_cons pe_str (pa_cons (pe_lst (pa_cons (pv 5) pa_nil)) pa_nil))) (pa_cons (pe_tup (pa_cons pe_str (pa_cons (pe_lst (pa_cons (pe_op op_add pe_int (pe_fn F__law_take hr (by decide) rfl (takes_of rfl rfl rfl rfl) (pa_cons (pv 1) (pa_cons pe_int pa_nil)))) pa_nil)) pa_nil))) pa_nil))))))
  (pss_one (ps_ret (pe_cmpR op_notIn_seq pe_bl (pe_lcD (own := [("row", 7)]) rfl sc_law.nd (pi_list (pv 6)) (blkOk_by (own := [("row", 7)]) (N := ["script", "store", "n", "total", "part", "far", "rows", "row"]) (sc := defScope s_law) (by decide +kernel)) (fun _ _ _ _ _ => (pg_name (i := 7) sc_law.nd rfl (Or.inl rfl))) (fun _ _ _ _ _ => pts_nil) (fun _ _ _ _ _ => (pe_fn F__law_refuses hr (by decide) rfl takes_no (pa_cons (pe_ix ix_seq (pv 7) pe_int (fun _ _ => rfl)) (pa_cons (pe_ix ix_seq (pv 7) pe_int (fun _ _ => rfl)) (pa_cons pe_str pa_nil))))) (by intro _; rfl) (by intro _ _ _ _ _; (try dsimp only [Cx.blk, cxOf]) <;> exact rfl) (by intro _ _ _ _ _; (try dsimp only [Cx.blk, cxOf]) <;> exact rfl) (by intro _ _ _ _ _; (try dsimp only [Cx.blk, cxOf]) <;> exact rfl)) (by rfl)))))))))), fun ws μ R X h => ?_⟩
  obtain ⟨ns, rfl, hl, rfl, hR⟩ := h
  change RS _ _ [some _, none, none, none, none, none, none, none] _ _
  (try dsimp only [cxOf])
  wtm_at "go"
  refine callF1 ⟨ns, rfl, hl, fun st s hS => ?_⟩
  wtm_at "nx"
  refine rs_slot5 2 3 4 5 6 (fun _ _ _ _ _ μ' => ∃ s', [(st, HC.lst s')] = μ' ∧ Sto s') ?_ ?_
  · refine rs_forI5 2 3 4 5 6 (fun i _ _ _ _ _ μ' => ∃ s', [(st, HC.lst s')] = μ' ∧ Sto s') (ri_list (re_lst ?_))
    wtm_at "go"
    refine callF1 ⟨st, s, rfl, rfl, hS, fun a s1 hS1 a1 a2 => ?_⟩
    wtm_at "go"
    refine callF1 ⟨st, s1, rfl, rfl, hS1, fun b s2 hS2 b1 b2 => ?_⟩
    wtm_at "go"
    refine dl_f rfl (by wtm_at "sz") ⟨_, rfl, ⟨_, _, _, _, _, rfl, rfl, rfl, rfl, rfl, s2, rfl, hS2⟩, ?_, fun o0 o1 o2 o3 o4 μ' q => ⟨_, _, _, _, _, rfl, q⟩⟩
    clear hS hS1 hS2
    rintro i d o2 o3 o4 o5 o6 _ hd ⟨s3, rfl, hS3⟩
    obtain ⟨n, rfl, n1, n2⟩ := AllOf.mem (P := fun d => ∃ n : Int, d = D.int n ∧ 1 ≤ n ∧ n ≤ 900) (ds := [.int a, .int b, .int 1]) ⟨⟨_, rfl, a1, a2⟩, ⟨_, rfl, b1, b2⟩, ⟨_, rfl, by decide, by decide⟩, trivial⟩ d (List.mem_of_getElem? hd)
    have ok := pf_ok n1 n2
    have hln := pf_len n1 n2
    refine rg_name rfl ?_
    dsimp only [List.set_cons_zero, List.set_cons_succ]
    wtm_at "nx"
    refine rs_if ?_
    wtm_at "go"
    refine callF1 ⟨st, s3, n, rfl, rfl, hS3, n1, n2, fun s4 hS4 => ?_⟩
    wtm_at "go"
    refine callF1 ⟨st, s4, n, rfl, rfl, hS4, n1, n2, fun s5 hS5 => ?_⟩
    wtm_at "go"
    refine rs_slot2 3 4 (fun o _ μ' => o = some (.i (totP (pf n))) ∧ [(st, HC.lst s5)] = μ') ?_ ?_
    · refine rs_forI2 3 4 (fun i o _ μ' => o = some (.i (totP ((pf n).take i))) ∧ [(st, HC.lst s5)] = μ') (ri_list ?_)
      wtm_at "go"
      refine callF0 ⟨n, rfl, n1, Bd.up (n := 10) ⟨by omega⟩ (by decide), ?_⟩
      rw [lpD_eq n1 n2]
      wtm_at "go"
      refine rc_listF rfl ⟨_, rfl, ⟨_, _, rfl, rfl, by rw [List.take_zero]; rfl, rfl⟩, ?_, ?_⟩
      · rintro i d o3 o4 _ hd ⟨rfl, rfl⟩
        rw [List.getElem?_map] at hd
        obtain ⟨⟨p, e⟩, hq, rfl⟩ := Option.map_eq_some_iff.mp hd
        obtain ⟨hp, he1, he2, hdv⟩ := ok.m _ (List.mem_of_getElem? hq)
        dsimp only at hp he1 he2 hdv
        have hil := (List.getElem?_eq_some_iff.mp hq).1
        obtain ⟨c1, c2, c3, c4⟩ := pow_le900 n1 n2 hp.2.1 hdv
        have tb := totP_bd n1 n2 i (by omega)
        have sb : Bd 11 (p ^ e.toNat + p ^ (e.toNat - 1)) := ⟨by omega⟩
        have hc : CMulW (totP ((pf n).take i)) (p ^ e.toNat + p ^ (e.toNat - 1)) := cmulw tb sb (by omega)
        rw [show prD (p, e) = D.tup [.int p, .int e] from rfl]
        refine rg_name rfl ?_
        dsimp only [List.set_cons_zero, List.set_cons_succ]
        wtm_at "go"
        refine callF1 ⟨p, e, 10, rfl, hp.bd, by omega, by omega, by omega, by decide, ?_⟩
        wtm_at "go"
        refine callF1 ⟨p, e - 1, 10, rfl, hp.bd, by omega, by omega, by omega, by decide, ?_⟩
        rw [show (e - 1).toNat = e.toNat - 1 by omega]
        wtm_at "go"
        exact ⟨_, _, rfl, by rw [take_snoc hq, totP_snoc], rfl⟩
      · rintro o3 o4 _ ⟨rfl, rfl⟩
        rw [List.length_map, List.take_length]
        exact ⟨_, _, rfl, rfl, rfl⟩
    rintro o3' o4' _ ⟨rfl, rfl⟩
    dsimp only [List.set_cons_zero, List.set_cons_succ]
    wtm_at "go"
    wtm_at "fl"
    refine callF1 ⟨_, _, rfl, .inr (.inl ⟨n, rfl, rfl, fun z => by omega, fun _ _ => ?_⟩)⟩
    wtm_at "go"
    refine sameT rfl rfl (by show 3 ≤ 1000000; decide) ?_
    wtm_at "go"
    exact ⟨_, _, _, _, _, rfl, s5, rfl, hS5⟩
  clear hS
  rintro o2 o3 o4 o5 o6 _ ⟨s1, rfl, hS1⟩
  dsimp only [List.set_cons_zero, List.set_cons_succ]
  wtm_at "nx"
  refine rs_if (rt_not (rt_B (re_sub ?_)))
  wtm_at "go"
  wtm_at "fl"
  refine take0 3 (by decide +kernel) hS1 fun r s2 hS2 r0 r1 _ => ?_
  wtm_at "go"
  refine ro_pickL (fun d => ∃ m, d = D.int m ∧ 24 ≤ m ∧ m ≤ 60) r0 r1 ⟨⟨_, rfl, by decide, by decide⟩, ⟨_, rfl, by decide, by decide⟩, ⟨_, rfl, by decide, by decide⟩, ⟨_, rfl, by decide, by decide⟩, ⟨_, rfl, by decide, by decide⟩, trivial⟩ ?_
  rintro _ ⟨m, rfl, m1, m2⟩
  wtm_at "go"
  refine takeF 0 rfl hS2 ((show Bd 10 m from ⟨by omega⟩).up (by decide)) fun t s3 hS3 t0 t1 => ?_
  wtm_at "go"
  refine callF1 ⟨1 + t, rfl, by omega, by omega, fun μ' hs => ⟨_, hs, ?_⟩⟩
  wtm_at "go"
  refine re_lst ?_
  wtm_at "go"
  refine take0 100 (by decide +kernel) hS3 fun u s4 hS4 u0 u1 _ => ?_
  wtm_at "go"
  refine dl_f rfl (by wtm_at "sz") ?_
  wtm_at "go"
  refine pick0 rfl (by simp) (by simp) hS4 fun x s5 hx hS5 => ?_
  obtain ⟨far, rfl, hf⟩ : ∃ far, x = .int far ∧ (far < 1 ∨ far > 900) := by
    simp only [List.mem_cons, List.not_mem_nil, or_false] at hx
    rcases hx with h | h | h | h | h
    · exact ⟨_, h, by decide⟩
    · exact ⟨_, h, by decide⟩
    · exact ⟨_, h, by decide⟩
    · exact ⟨_, h, by omega⟩
    · exact ⟨_, h, .inl (by decide +kernel)⟩
  wtm_at "nx"
  refine rs_asg (re_lst ?_)
  wtm_at "go"
  wtm_at "fl"
  wtm_at "fl"
  wtm_at "fl"
  wtm_at "fl"
  refine dl_o (by wtm_at "sz") fun l1 => ?_
  wtm_at "go"
  refine re_lst ?_
  wtm_at "go"
  wtm_at "fl"
  wtm_at "fl"
  refine re_lst ?_
  wtm_at "go"
  refine take1 10 (by decide +kernel) hS5 fun v s6 hS6 v0 v1 _ => ?_
  wtm_at "go"
  refine dl_f rfl (by wtm_at "sz") ?_
  wtm_at "go"
  refine dl_o (by wtm_at "sz") fun l2 => ?_
  refine ro_cat (ka := 1) (kb := 0) (xs := [.tup [.str "class", .lst [.tup [.int 1, .int 2], .int far]], .tup [.str "total", .lst [.int far]], .tup [.str "is", .lst [.tup [.tup [.int 0, .int 1]], .int far]], .tup [.str "fraction", .lst [.tup [.tup [.int 0, .int 1]], .int far]]])
    (ys := [.tup [.str "coarsened", .lst [.tup [.tup [.int 0, .int 1]], .int far, .int 0]], .tup [.str "list", .lst [.int far]], .tup [.str "list", .lst [.int (61 + v)]]]) rfl rfl (by wtm_at "sz") ?_
  refine rg_name rfl ?_
  dsimp only [List.set_cons_zero, List.set_cons_succ, List.cons_append, List.nil_append]
  refine rs_ret (re_op (re_v (by wtm_at "ve") ?_))
  refine re_lcN (fun _ => .bl true) (ri_list (re_v (by wtm_at "ve") ⟨_, rfl, len_ok (by show 7 ≤ 1000000; decide), fun d hd => ?_, ?_⟩))
  · obtain ⟨wd, th, rfl, hr⟩ := AllOf.at (P := fun d => ∃ (wd : Str) (th : List D), d = D.tup [.str wd, .lst th] ∧ Refs wd th "n") hd ⟨⟨_, _, rfl, .cls hf⟩, ⟨_, _, rfl, .tot hf⟩, ⟨_, _, rfl, .isc (cs := [(0, 1)]) hf⟩, ⟨_, _, rfl, .fra (cs := [(0, 1)]) hf⟩, ⟨_, _, rfl, .coaN (cs := [(0, 1)]) hf⟩, ⟨_, _, rfl, .lst (by omega)⟩, ⟨_, _, rfl, .lst (by omega)⟩, trivial⟩
    refine rgw_name (by decide) rfl ⟨rfl, ?_⟩
    wtm_at "go"
    refine callF1 ⟨wd, "n", th, rfl, hr, ?_⟩
    exact ⟨rfl, rfl⟩
  refine dl_f (undat_map _) (len_ok (by show 7 ≤ 1000000; decide)) ?_
  refine ro_v (vo_in (c := true) rfl rfl rfl rfl) ?_
  exact hR _

end
def loose_0 : List PySem.Str := ["greatest_divisor", "raised", "split_off", "valuation", "prime_parts", "inverse_modulo", "combine", "lowest", "check_modulus", "class_at", "all_classes", "class_above", "class_modulo", "class_total", "classes_modulo", "class_key", "coarsened", "is_item", "is_class", "fraction_in", "_law_store", "_law_mixed", "_law_blend", "_law_take", "_law_pick", "_law_power", "_law_divisor", "_law_lowest", "_law_parts", "_law_class_list"]
def loose_1 : List PySem.Str := ["_law_classes_modulo", "_law_some_class", "_law_bad_class", "_law_same", "_law_plain_keys", "_law_is_whole", "_law_is_row", "_law_call", "_law_refuses", "_law_places_of", "_law_meets", "_law_any", "_law_modulus_of", "_law_fractions_right", "_law_classes_right", "_law_list_right", "TooGreatError", "NoFraction", "BadForm", "TooFine", "OutOfRange", "LAST_PRIME", "GREATEST_EXPONENT", "GREATEST_MODULUS", "GREATEST_WHOLE_LIST", "ALL_FRACTIONS"]
def loose : List PySem.Str := loose_0 ++ loose_1
abbrev R : PySem.W.OpenRow := PySem.W.OpenLaw.row PySem.Challenge.rw_soontoogreat_k06_classes_modulo_numbers
abbrev hk : PySem.W.Hook := hookE 6 fa fn exs
def ob (s : PySem.W.SharedT) : Bool × He.AlD := obE 6 fa fn exs (HandSHeadRun.getT s)
theorem ob_eq (s : PySem.W.SharedT) : ob s = hk.obs s.abs := obE_eq (HandSHeadRun.getT_eq s)
theorem run (w : World) : HandSHeadRun.RunEq R (PySem.W.view R.prog [61]) hk ob 9000 loose w := by
  intro os
  kernel_rfl
end Lw
open PySem PySem.W PyProof.Rows
set_option maxRecDepth 100000 in
set_option maxHeartbeats 0 in
theorem PySem.Challenge.cw_soontoogreat_k06_classes_modulo_numbers_holds : PySem.Challenge.rw_soontoogreat_k06_classes_modulo_numbers.Holds := by
  w_on; o_law
  refine HandSHeadRun.head_any (r := OpenLaw.row PySem.Challenge.rw_soontoogreat_k06_classes_modulo_numbers) (q := view (OpenLaw.row PySem.Challenge.rw_soontoogreat_k06_classes_modulo_numbers).prog [61]) (H := Lw.hk) (ob := Lw.ob) (M := 9000) (loose := Lw.loose) (d := HandSHeadRun.topDef (OpenLaw.row PySem.Challenge.rw_soontoogreat_k06_classes_modulo_numbers).prog 61) (kwd := []) Lw.ob_eq
    (by kernel_rfl) (fun s => by kernel_rfl) Lw.run (by kernel_rfl) (by kernel_rfl) (by kernel_rfl) (by rfl) (by first | assumption | decide +kernel) (by decide +kernel) ⟨rfl, rfl, rfl, rfl, rfl, by decide +kernel⟩ ?hw ?hc
  case hw => w_witness2
  case hc =>
    refine Sn.walk_w (l := PySem.Challenge.rw_soontoogreat_k06_classes_modulo_numbers) (k := 10) rfl (by kernel_rfl) ⟨rfl, by decide, by decide⟩ ?F
    intro w mg fa h Y G hmg0
    obtain ⟨K, KX, hx, c⟩ := Y
    have hmg : mg ("law" : PySem.Str) = some (.ref fa) := by
      have e : (HandSHeadRun.topDef (OpenLaw.row PySem.Challenge.rw_soontoogreat_k06_classes_modulo_numbers).prog 61).name = ("law" : PySem.Str) := by kernel_rfl
      rw [← e]
      exact hmg0
    obtain ⟨fd, hb, hF⟩ := Sn.fn_one (Lw.fn_law (P := (PySem.Challenge.rw_soontoogreat_k06_classes_modulo_numbers).prog) (w := w) ⟨KX, G, hx, c⟩) hmg fun base kb gb => Lw.fn_law (P := (PySem.Challenge.rw_soontoogreat_k06_classes_modulo_numbers).prog) (w := w) ⟨kb, gb, hx, c⟩
    exact ⟨K, fd, KX, hb, hF⟩
